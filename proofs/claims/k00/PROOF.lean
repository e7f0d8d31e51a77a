import PyProof.Rows.All
import Wide.All
import OpenK.AllK
import Wide.FinOn
import HandS.ForExc
import HandS.ExcInit
import KE.KExcSuper
import HandS.ForMost
import HandS.Wide
import HandS.IsInst
import HandS.Lambda
import HandS.Style
import HandS.Defaults
import HandS.TupAny
import HandS.ExcField
import HandS.HotCalls
import KE.KExcIs
import HandS.ExcIs
import HandS.HeadHook1
import HandS.HeadHook2
import HandS.HeadHook4
import PyProof.NoPylong
import KE.KStateDown
import Lean
import HandS.Head0
import HandS.Head1
import HandS.Head2
import HandS.HeadEnd
import HandS.HeadWalk
import PySem.Challenge.RW_shrinksanyhow_k00_whole_fractions_by_clo
set_option Elab.async false
set_option linter.all false
set_option maxRecDepth 100000
set_option maxHeartbeats 4000000
namespace DL
open PySem PySem.Spec PyProof.Rows L2 PySem.W

/-- what the written part says of an own exception whose __init__ says super().__init__(at); self.at = at -/
structure ExcD (P : Program) (K : Frag) (C : Addr) (params : Arguments) (body : List Stmt) (scope : Scope) (qual : Str) (f : Addr) (fd : FuncData) : Prop where
  init : ∃ name dV kV doc pm an cda ct cc oc od osl, fd = ksFn name qual params body scope dV kV doc pm an (.ref cda) ct cc ∧ K.lookup f = some ⟨oc, od, .func fd, osl⟩ ∧ codeIn K (.ref cda) qual = true ∧
    (∃ ccl cdd vs ccs file tf, K.lookup cda = some ⟨ccl, cdd, .fields vs, ccs⟩ ∧ vs[2]? = some (.str file tf) ∧ ((P.main.file : Str) == file) = true) ∧
    (∃ cl cld csl, K.lookup cc = some ⟨cl, cld, .cell (some (.ref C)), csl⟩)
  nod : fd.defaults = .none
  cls : ∃ cdD, clsIn K C = some cdD
  sub : mroIn K C (.ref C) = some true
  own : nsIn K cStatics "thirdparty.any" = some none
  sup : ks_superIn K C C "__init__" = some (some (.builtin "ValueError.__init__"))
  isV : subIn K (.ref C) (.type "ValueError") = some true
  oex : OexC K C
  noAt : findIn K (.ref C) "at" = some none
  iC : findIn K (.ref C) "__init__" = some (some (.ref f))
  tI : typeIn K (.ref f) = some (.type "function")
  top : (P.main.scope.names.lookup ("super" : Str)).isSome = false

structure ExcScope (scope : Scope) : Prop where
  kind : scope.kind = .function
  co : scope.isCoroutine = false
  gen : scope.isGenerator = false
  cell : ∀ x ∈ scope.names, x.2 ≠ .cell
  self : scope.names.lookup ("self" : Str) = some .local
  at_ : scope.names.lookup ("at" : Str) = some .local
  sup : scope.names.lookup ("super" : Str) = some .globalImplicit
  cls : scope.names.lookup ("__class__" : Str) = some .free
  free : ∀ y ∈ scope.names, y.2 = .free → y.1 = ("__class__" : Str)

def spX (K : Frag) (C : Addr) : Sp := fun vs H Q _ => ∃ (a : Addr) (v : V), vs = [.ref a, v] ∧ H a = some (exo a C none) ∧
  ∀ dx, H dx = none → dx ≠ a → Q .non (upd (upd H dx (exd dx [("at", v)])) a (exo a C (some dx)))

def cxI (CX : CXT) (P : Program) (w : World) (K : Frag) (mg : Str → Option Value) (base : Heap) (qual : Str) (scope : Scope) (f : Addr) (cd : Value) (cc : Addr) (A : Around) (outer : List Env) (s : Shared) (H : Hp) (E : XK) : Cx where
  prog := P
  w := w
  K := K
  mg := mg
  base := base
  A := A.deeper (ksEnv qual scope s.heap.objs.size f cd cc)
  N := ["self", "at"]
  s_0 := s
  H_0 := H
  env := ksEnv qual scope s.heap.objs.size f cd cc
  outer := outer
  stack := ksEnv qual scope s.heap.objs.size f cd cc :: outer
  ex := []
  calm := true
  fn := fun _ => false
  pn := []
  xe := fun e s' => wpAny (model P w) (A.deeper (ksEnv qual scope s.heap.objs.size f cd cc)) (leaving (ksEnv qual scope s.heap.objs.size f cd cc) e) (fun _ s'' => CX outer H s E e s'') (fun e' s'' => CX outer H s E e' s'') s'

theorem call_mwV {prog : Program} {w : World} {A : Around} {E : Value → Shared → Prop} {h : Heap} {g : Array GenState} {d : Drawn} {t : Nat} {os : OsState}
    {nm q : Str} {C N : Addr} {bs bm : List Value} {hdct : Bool} {sn : List Str} {sub : List Value} {ab : Bool} {col : Option Bool} {dd : Option Addr} {k0 k1 k2 k3 k5 : Option Value}
    {u e t0 : Addr} {rest : List Value} {Q : Value → Shared → Prop}
    (hC : h.get? C = some (excClassObj nm q C N bs bm hdct sn sub ab col dd k0 k1 k2 k3 k5 "ValueError.__new__")) (he : h.get? e = some ({ cls := .ref C, dict := none, data := .fields #[.ref t0, .none, .none, .none, .bool false, .none] } : Obj)) (hu : h.get? u = some (kxs_mw "ValueError.__init__" e)) (hrest : rest.length ≤ sizeLine)
    (hq : ∀ h' t1, (∀ b o, b ≠ e → h.get? b = some o → h'.get? b = some o) → h'.get? e = some ({ cls := .ref C, dict := none, data := .fields #[.ref t1, .none, .none, .none, .bool false, .none] } : Obj) → Q .none ⟨h', g, d, t, os⟩) :
    wpAny (model prog w) A (call (.ref u) rest) Q E ⟨h, g, d, t, os⟩ := by
  refine wpAny_call (codeAny_of_tree ?_)
  show wpAny _ A.in1 (callAny (.ref u) ⟨rest, []⟩) _ _ _
  simp only [callAny]
  refine wpAny_bind (wpAny_load hu ?_)
  simp only [kxs_mw, show (Value.type "method-wrapper" == Value.type "method" || Value.type "method-wrapper" == Value.type "builtin_function_or_method" || Value.type "method-wrapper" == Value.type "method-wrapper") = true by decide, if_true]
  refine KFB.if_so (by decide) ?_
  refine wpAny_bind (check_bound_init F.excBase_ValueError.toExcCallFacts hC he rfl ?_)
  refine wpAny_bind (wpAny_pure (wpAny_pure ?_))
  refine ⟨plainId_quiet F.excBase_ValueError.init.plain _, codeAny_builtin F.excBase_ValueError.initEntry ?_⟩
  exact exc_init_tree (cls := .ref C) (t0 := t0) (dv := none) (c2 := .none) (c3 := .none) (b4 := .bool false) he hrest fun h' k e' _ => hq h' _ k e'

theorem exc_init_ok {CX : CXT} {P : Program} {w : World} {K : Frag} {mg : Str → Option Value} {base : Heap} {C f : Addr} {params : Arguments} {scope : Scope} {qual : Str} {fd : FuncData} {p0 p1 p2 p3 p4 p5 p6 p7 p8 p9 : Pos} {ar : Arg}
    (T : ExcD P K C params [.Expr (.Call (.Attribute (.Call (.Name "super" p0) [] [] p1) "__init__" p2) [.Name "at" p3] [] p4) p5, .Assign [.Attribute (.Name "self" p6) "at" p7] (.Name "at" p8) p9] scope qual f fd) (S : ExcScope scope)
    (pl : Env → Sem Bool) (hcall : ∀ env, eval (.Call (.Attribute (.Call (.Name "super" p0) [] [] p1) "__init__" p2) [.Name "at" p3] [] p4) env = (do
      let ov ← attributeBase (.Call (.Name "super" p0) [] [] p1) "__init__" env (eval (.Call (.Name "super" p0) [] [] p1) env)
      standAt p2.atName
      let (f, first) ← holding [ov] (getMethod ov "__init__" (pl env))
      callWith p4 f first (backTo p4 (starEach [.Name "at" p3] env)) []))
    (hsup : mg "super" = none) (hpar : (params.posonlyargs ++ params.args).head? = some ar) (har : ar.arg = "self") : FnOk P w K mg base CX 1 f fd ["self", "at"] (spX K C) := by
  obtain ⟨name, dV, kV, doc, pm, an, cda, ct, cc, oc, od, osl, rfl, lk, hcd, ⟨ccl, cdd, vs, ccs, file, tf, hcode, hvs, hfile⟩, ⟨cl, cld, csl, hcell⟩⟩ := T.init
  refine ⟨fun vs H Q E ⟨a, v, e, _⟩ => by rw [e]; rfl, fun A outer s H args us vs Q E hr e0 hb r hsp => ?_⟩
  obtain ⟨a, v, rfl, hH, hq⟩ := hsp
  cases r with | @cons _ u0 _ ur ra r1 => ?_
  cases r1 with | @cons _ uv _ ur ry r2 => ?_
  cases r2
  obtain rfl : u0 = Value.ref a := ra
  have KX : K.In s.heap := e0.mod.kin.keeps fun b o e => (e0.bs b o e).1
  have lim : s.heap.NoLimit := e0.mod.nolimit.keeps fun b o e => (e0.bs b o e).1
  have hloc : ∀ y ∈ (["self", "at"] : List Str).zip [Value.ref a, uv], scope.names.lookup y.1 = some .local := fun y hy => by
    simp only [List.zip_cons_cons, List.zip_nil_right, List.mem_cons, List.mem_nil_iff, or_false] at hy
    rcases hy with rfl | rfl
    · exact S.self
    · exact S.at_
  refine ks_codeAny_call_defAt (body := [.Expr (.Call (.Attribute (.Call (.Name "super" p0) [] [] p1) "__init__" p2) [.Name "at" p3] [] p4) p5, .Assign [.Attribute (.Name "self" p6) "at" p7] (.Name "at" p8) p9]) hr.depth (KX _ _ lk) rfl lim (codeRec_of KX hcd) rfl hb S.cell hloc (fun h₀ hns hk => ?_) S.co S.gen S.kind
  show PySem.wpAt (model P w) (A.deeper (ksEnv qual scope s.heap.objs.size f (.ref cda) cc)) (.func _ (ksEnv qual scope s.heap.objs.size f (.ref cda) cc)) (execs _ (ksEnv qual scope s.heap.objs.size f (.ref cda) cc)) _ _ _
  have hcc : base.get? cc = some ⟨cl, cld, .cell (some (.ref C)), csl⟩ := e0.mod.kin _ _ hcell
  have noA : ∀ b : Addr, b ∉ (cxI CX P w K mg base qual scope f (.ref cda) cc A outer s H E).ex := fun b z => absurd (show b ∈ ([] : List Addr) from z) (by simp)
  have cl1 : ∀ {y : Str} {c : Addr}, ([(("__class__" : Str), cc)] : List (Str × Addr)).lookup y = some c → y = ("__class__" : Str) ∧ c = cc := fun {y c} h => by
    have m := PySem.mem_of_lookup h
    simp only [List.mem_singleton, Prod.mk.injEq] at m
    exact m
  have I0 : ∀ t, Inv (cxI CX P w K mg base qual scope f (.ref cda) cc A outer s H E) [] [some (.ref a), some v] H { s with heap := h₀, toks := t } := fun t => by
    refine ⟨⟨e0.mod, S.kind, rfl, rfl, Nat.le_refl _, fun y z c h1 h2 => ?_, fun y hy => ?_, fun y c h _ => ?_, fun _ => hr.hd, Around.frames_deeper e0.frames, .inr ⟨rfl, rfl⟩, fun b z => absurd z (noA b), e0.bs, e0.bsz, fun b _ _ => noA b, fun b z => absurd z (noA b), e0.funs, e0.frf⟩,
      rfl, e0.bare, Un.kept hk, ⟨_, hns, fun i y v' h1 h2 h3 => ?_⟩, fun y c h => ?_, e0.hok.fresh (Nat.le_refl _), fun y c h => ?_, fun p hp => absurd (show p ∈ ([] : List (Addr × Obj)) from hp) (by simp), e0.hok.kept hk, rfl⟩
    · exact (cl1 h1).1.trans (cl1 h2).1.symm
    · have hy : scope.names.lookup y = some .cell ∨ scope.names.lookup y = some .free := hy
      rcases hy with hy | hy
      · exact absurd rfl (S.cell _ (PySem.mem_of_lookup hy))
      · have e : y = ("__class__" : Str) := S.free _ (PySem.mem_of_lookup hy) rfl
        subst e
        exact ⟨cc, rfl⟩
    · cases h
    · have hN : (["self", "at"] : List Str)[i]? = some y := h1
      match i, hN, h2 with
      | 0, hN, h2 =>
        cases hN
        cases h2
        exact ⟨_, rfl, .inl ⟨S.self, rfl⟩⟩
      | 1, hN, h2 =>
        cases hN
        cases h2
        exact ⟨_, ry, .inl ⟨S.at_, rfl⟩⟩
      | n + 2, hN, h2 => cases hN
    · obtain ⟨rfl, rfl⟩ := cl1 h
      exact ⟨_, _, hk _ _ ((e0.bs _ _ hcc).1), rfl⟩
    · obtain ⟨rfl, rfl⟩ := cl1 h
      exact (e0.bs _ _ hcc).2
  obtain ⟨cdD, hD⟩ := T.cls
  obtain ⟨nm, qq, N', bs, bm, sn, sub, ab, col, dd, k0, k1, k2, k3, k5, hC, hbm⟩ := T.oex.cls
  obtain ⟨oD, hDD⟩ : ∃ oD : Obj, ∀ h : Heap, K.In h → h.get? C = some oD ∧ oD.data = .cls cdD := by
    have hD' := hD
    unfold clsIn at hD'
    split at hD'
    · rename_i c d cd' sl ho
      cases hD'
      exact ⟨_, fun h X => ⟨X _ _ ho, rfl⟩⟩
    · cases hD'
  generalize hbody : ([Stmt.Expr (.Call (.Attribute (.Call (.Name "super" p0) [] [] p1) "__init__" p2) [.Name "at" p3] [] p4) p5, .Assign [.Attribute (.Name "self" p6) "at" p7] (.Name "at" p8) p9] : List Stmt) = body
  obtain ⟨hh, g, dr, tk, os⟩ := s
  have J0 := I0 (tk + 2)
  have X0 : K.In h₀ := J0.kIn
  obtain ⟨t1, hx0⟩ := exo_at J0.hok hH
  have II : ∀ {h : Heap}, h.get? a = some ({ cls := .ref C, dict := none, data := .fields #[.ref t1, .none, .none, .none, .bool false, .none] } : Obj) → InstAt h a ({ cls := .ref C, dict := none, data := .fields #[.ref t1, .none, .none, .none, .bool false, .none] } : Obj) C none := fun h => ⟨h, rfl, rfl, trivial⟩
  subst hbody
  refine ks_wpAt_execs_cons (ks_wpAt_Expr_any (ks_wpAt_MethodCall (ks_wpAt_super_base (f := f) (cc := cda) S.sup S.cls (by decide) rfl (X0 _ _ lk) rfl (show (params.posonlyargs ++ params.args).head? = some ar from hpar) rfl (X0 _ _ hcode) rfl hvs hfile T.top ?_) (hcall _)) (by
    show interactive _ = false
    unfold interactive
    simp [ksEnv, envX, S.kind]) (by rfl))
  obtain ⟨mb, hmb, hmb2⟩ := e0.mod.blt
  obtain ⟨hC1, hC2⟩ := hDD _ X0
  refine ks_loadName_global S.kind S.sup (PySem.Calls.loadGlobal_builtin (e0.mod.glob.keepsP J0.bk) hsup (hmb.keepsP J0.bk) ((hmb2 _ (by decide)).trans (show bootBuiltins "super" = some (.type "super") by decide +kernel)) ⟨rfl, ?_⟩)
  refine wpAny_loadName_free S.kind S.cls rfl ⟨_, X0 _ _ hcell, rfl⟩ ?_
  rw [har]
  refine wpAny_loadName_local S.kind S.self hns (by rfl) ?_
  refine ks_wpAny_isType_cls hC1 hC2 ⟨rfl, ?_⟩
  refine ks_wpAny_call_super hC1 hC2 hx0 rfl (fun c e => by cases e) (looks_mroIn X0 T.sub) (fun h1 e1 k1 => ?_)
  have J1 := J0.kept (t' := tk + 2) k1
  have X1 : K.In h1 := J1.kIn
  have hne : a ≠ C := ks_ne X0 (II hx0) hD
  have hsx : ∃ l, (cdD.mro.dropWhile (· != .ref C)).drop 1 = l ∧ alongIn K "__init__" l = some (some (.builtin "ValueError.__init__")) := by
    have q := T.sup
    unfold ks_superIn at q
    rw [hD] at q
    exact ⟨_, rfl, q⟩
  obtain ⟨l, hl, hal⟩ := hsx
  refine kxs_getMethod kxs_ValueError e1 (looks_opaque X1 T.own) (l₀ := cdD.mro) (fun A Q E s k q => wpAny_bind ((looks_clsIn X1 hD) A _ E s k (wpAny_pure q))) hl X1 hal ((II (k1 _ _ hx0)).type.andThen (looks_subIn X1 T.isV)) hne (by decide) ?_
  have k2 : ∀ b o, h1.get? b = some o → (h1.push (kxs_mw "ValueError.__init__" a)).get? b = some o := fun b o e => Heap.get?_push_of_some _ e
  have J2 := J1.kept (t' := tk + 3) k2
  have hns2 := (hns.keepsP k1).keepsP k2
  refine kxs_callWith (i := "ValueError.__init__") (x := a) rfl (PySem.Calls.evalArgs_plain ?_)
  refine Calls.spliced_cons (wpAny_Name (wpAny_loadName_local S.kind S.at_ hns2 (by rfl) ?_) (by decide))
  refine Calls.spliced_nil ⟨Heap.get?_push_at rfl rfl, ?_⟩
  have hx2 := k2 _ _ (k1 _ _ hx0)
  refine call_mwV (X0.keeps (fun b o e => k2 b o (k1 b o e)) |> fun X => X _ _ hC) hx2 (Heap.get?_push_at rfl rfl) (by show 1 ≤ sizeLine; rw [sizeLine_eq]; decide) fun h3 t3 k3 e3 => ?_
  have J3 : Inv (cxI CX P w K mg base qual scope f (.ref cda) cc A outer ⟨hh, g, dr, tk, os⟩ H E) [] [some (.ref a), some v] H ⟨h3, g, dr, tk + 3, os⟩ := by
    have J := J2.write (t' := tk + 3) (x := a) (e := a) (o := exo a C none) (by rw [hH]; exact True.intro) (.inl rfl) k3 ⟨_, e3⟩ (exo_ok e3)
    have eu : upd H a (exo a C none) = H := by
      funext b
      by_cases hb : b = a
      · rw [hb, upd_same, hH]
      · rw [upd_ne hb]
    rw [eu] at J
    exact J
  have hLa : hh.objs.size ≠ a := fun z => by
    have q : H hh.objs.size = none := J2.free
    rw [z, hH] at q
    cases q
  have hns3 := (show ∀ m, (h1.push (kxs_mw "ValueError.__init__" a)).Ns hh.objs.size m → h3.Ns hh.objs.size m from fun m ⟨o, es, ep, e, r⟩ => ⟨o, es, ep, k3 _ _ hLa e, r⟩) _ hns2
  refine ks_wpAt_execs_cons (ks_wpAt_Assign_Attr (wpAt_of_wpAny (wpAny_Name (wpAny_loadName_local S.kind S.at_ hns3 (by rfl) ?_) (by decide))) (by rfl))
  refine wpAny_Name (wpAny_loadName_local S.kind S.self hns3 (by rfl) ?_) (by decide)
  refine ost_new T.oex J3 hH T.noAt ry fun dx s' hn hdx J4 => ?_
  refine wpAt_of_wpAny ?_
  show wpAny _ _ (execs [] _) _ _ _
  rw [execs_nil]
  refine wpAny_pure ?_
  exact ⟨.non, _, J4.os, J4.bare, J4.base, J4.hok, rfl, hq dx hn hdx⟩
end DL
set_option Elab.async false
set_option linter.all false
set_option maxRecDepth 100000
set_option maxHeartbeats 4000000
/-! DL, part 1: Python's values as plain data; what a body keeps; readings of expressions as functions on data. -/
namespace DL
open PySem PySem.Spec PyProof.Rows L2

abbrev D := PyData
/-- the state of the law's draws: the great cells, the stir -/
abbrev S := List Int × Int
/-- where the draws' two lists lie -/
abbrev Hd := Option (Addr × Addr × List (Addr × Str))
def isH (h : Hd) (p : Addr) : Prop := ∃ a b T, h = some (a, b, T) ∧ (p = a ∨ p = b ∨ ∃ q, (p, q) ∈ T)

theorem sq_l {K : PySem.W.Frag} {H H' : Hp} {a : Addr} {xs : List V} (e : Same H H') (h : SqL K H a xs) : SqL K H' a xs := by
  rcases h with (h | ⟨o, h⟩) | h
  · exact .inl (.inl (e _ _ h))
  · exact .inl (.inr ⟨o, e _ _ h⟩)
  · exact .inr h
theorem sq_t {K : PySem.W.Frag} {H H' : Hp} {a : Addr} {xs : List V} (e : Same H H') (h : SqT K H a xs) : SqT K H' a xs := by
  rcases h with (h | ⟨o, h⟩) | h
  · exact .inl (.inl (e _ _ h))
  · exact .inl (.inr ⟨o, e _ _ h⟩)
  · exact .inr h

mutual
inductive Rep (K : PySem.W.Frag) (h : Hd) (F : Hp) : V → D → Prop
  | non : Rep K h F .non .none
  | bl (b : Bool) : Rep K h F (.bl b) (.bool b)
  | int (i : Int) : Rep K h F (.int i) (.int i)
  | str (x : Str) : Rep K h F (.str x) (.str x)
  | lst {a : Addr} {xs : List V} {ds : List D} : F a = some (.lst xs) → RepL K h F xs ds → Rep K h F (.ref a) (.list ds)
  | tup {a : Addr} {xs : List V} {ds : List D} : SqT K F a xs → RepL K h F xs ds → Rep K h F (.ref a) (.tuple ds)
  | hn {a b : Addr} {T : List (Addr × Str)} : h = some (a, b, T) → Rep K h F (.ref a) (.dict [])
  | sq {a : Addr} {ns : List Int} : SqL K F a (ns.map V.int) → Rep K h F (.ref a) (.dict [(.none, .list (ns.map PyData.int))])
inductive RepL (K : PySem.W.Frag) (h : Hd) (F : Hp) : List V → List D → Prop
  | nil : RepL K h F [] []
  | cons {v : V} {vs : List V} {d : D} {ds : List D} : Rep K h F v d → RepL K h F vs ds → RepL K h F (v :: vs) (d :: ds)
end

section
variable {K : PySem.W.Frag} {h : Hd} {F F' H : Hp}
mutual
theorem Rep.mono (e : Same F F') : ∀ (d : D) (v : V), Rep K h F v d → Rep K h F' v d
  | .none, _, .non => .non
  | .bool _, _, .bl b => .bl b
  | .int _, _, .int i => .int i
  | .str _, _, .str x => .str x
  | .list ds, _, .lst a r => .lst (e _ _ a) (RepL.mono e ds _ r)
  | .tuple ds, _, .tup a r => .tup (sq_t e a) (RepL.mono e ds _ r)
  | .dict _, _, .hn a => .hn a
  | .dict _, _, .sq a => .sq (sq_l e a)
theorem RepL.mono (e : Same F F') : ∀ (ds : List D) (vs : List V), RepL K h F vs ds → RepL K h F' vs ds
  | [], _, .nil => .nil
  | d :: ds, _, .cons a r => .cons (Rep.mono e d _ a) (RepL.mono e ds _ r)
end
theorem Rep.up {v : V} {d : D} (r : Rep K h F v d) (e : Same F F') : Rep K h F' v d := Rep.mono e d v r
theorem RepL.up {vs : List V} {ds : List D} (r : RepL K h F vs ds) (e : Same F F') : RepL K h F' vs ds := RepL.mono e ds vs r
theorem RepL.len : ∀ {vs : List V} {ds : List D}, RepL K h F vs ds → vs.length = ds.length
  | _, _, .nil => rfl
  | _, _, .cons _ r => by rw [List.length_cons, List.length_cons, RepL.len r]
theorem RepL.get : ∀ {vs : List V} {ds : List D} {j : Nat} {d : D}, RepL K h F vs ds → ds[j]? = some d → ∃ v, vs[j]? = some v ∧ Rep K h F v d
  | _, _, _, _, .nil, e => by simp at e
  | _, _, 0, _, .cons a _, e => by
    simp at e
    subst e
    exact ⟨_, rfl, a⟩
  | _, _, j + 1, _, .cons _ r, e => by
    obtain ⟨v, h1, h2⟩ := RepL.get (j := j) r (by simpa using e)
    exact ⟨v, by simpa using h1, h2⟩
theorem RepL.append : ∀ {vs ws : List V} {ds es : List D}, RepL K h F vs ds → RepL K h F ws es → RepL K h F (vs ++ ws) (ds ++ es)
  | _, _, _, _, .nil, s => s
  | _, _, _, _, .cons a r, s => .cons a (RepL.append r s)
theorem RepL.take : ∀ {vs : List V} {ds : List D} (n : Nat), RepL K h F vs ds → RepL K h F (vs.take n) (ds.take n)
  | _, _, 0, _ => .nil
  | _, _, _ + 1, .nil => .nil
  | _, _, n + 1, .cons a r => .cons a (RepL.take n r)
theorem RepL.drop : ∀ {vs : List V} {ds : List D} (n : Nat), RepL K h F vs ds → RepL K h F (vs.drop n) (ds.drop n)
  | _, _, 0, r => r
  | _, _, _ + 1, .nil => .nil
  | _, _, n + 1, .cons _ r => RepL.drop n r
theorem RepL.one {v : V} {d : D} (r : Rep K h F v d) : RepL K h F [v] [d] := .cons r .nil
theorem RepL.dropLast {vs : List V} {ds : List D} (r : RepL K h F vs ds) : RepL K h F vs.dropLast ds.dropLast := by
  rw [List.dropLast_eq_take, List.dropLast_eq_take, r.len]
  exact r.take _
theorem RepL.eraseIdx : ∀ {vs : List V} {ds : List D} (i : Nat), RepL K h F vs ds → RepL K h F (vs.eraseIdx i) (ds.eraseIdx i)
  | _, _, _, .nil => .nil
  | _, _, 0, .cons _ r => r
  | _, _, i + 1, .cons a r => .cons a (RepL.eraseIdx i r)
theorem RepL.set {v : V} {d : D} (q : Rep K h F v d) : ∀ {vs : List V} {ds : List D} (i : Nat), RepL K h F vs ds → RepL K h F (vs.set i v) (ds.set i d)
  | _, _, _, .nil => .nil
  | _, _, 0, .cons _ r => .cons q r
  | _, _, i + 1, .cons a r => .cons a (RepL.set q i r)
theorem RepL.rev {vs : List V} {ds : List D} (r : RepL K h F vs ds) : RepL K h F vs.reverse ds.reverse := by
  induction vs generalizing ds with
  | nil => cases r; exact .nil
  | cons v vs ih =>
    cases r with
    | cons a r =>
      rw [List.reverse_cons, List.reverse_cons]
      exact (ih r).append (.one a)
theorem RepL.rep {vs : List V} {ds : List D} (r : RepL K h F vs ds) : ∀ k : Nat, RepL K h F (List.replicate k vs).flatten (List.replicate k ds).flatten
  | 0 => .nil
  | k + 1 => by
    rw [List.replicate_succ, List.replicate_succ, List.flatten_cons, List.flatten_cons]
    exact r.append (RepL.rep r k)
theorem RepL.at {vs : List V} {ds : List D} {k : Int} {d : D} (r : RepL K h F vs ds) (e : atI ds k = some d) : ∃ v, atI vs k = some v ∧ Rep K h F v d := by
  unfold atI at e ⊢
  rw [r.len]
  cases q : ixN ds.length k with
  | none =>
    rw [q] at e
    cases e
  | some j =>
    rw [q] at e
    exact r.get e
theorem RepL.ints : ∀ {vs : List V} {ns : List Int}, RepL K h F vs (ns.map PyData.int) → vs = ns.map V.int
  | _, [], .nil => rfl
  | _, n :: ns, .cons a r => by
    cases a
    rw [RepL.ints r]
    rfl
theorem RepL.ofInts : ∀ (ns : List Int), RepL K h F (ns.map V.int) (ns.map PyData.int)
  | [] => .nil
  | n :: ns => .cons (.int n) (RepL.ofInts ns)
theorem RepL.bls : ∀ {vs : List V} {ns : List Bool}, RepL K h F vs (ns.map PyData.bool) → vs = ns.map V.bl
  | _, [], .nil => rfl
  | _, n :: ns, .cons a r => by
    cases a
    rw [RepL.bls r]
    rfl
end

/-! ### plain data (no handle in it), for == -/
mutual
def plain : D → Bool
  | .list ds => plainL ds
  | .tuple ds => plainL ds
  | .dict _ => false
  | _ => true
def plainL : List D → Bool
  | [] => true
  | d :: ds => plain d && plainL ds
end
section
variable {K : PySem.W.Frag} {h : Hd} {F H : Hp}
mutual
theorem Rep.dp (e : Same F H) : ∀ (d : D) (v : V), plain d = true → Rep K h F v d → Dp K H v d
  | .none, _, _, .non => .non
  | .bool _, _, _, .bl b => .bl b
  | .int _, _, _, .int i => .int i
  | .str _, _, _, .str x => .str x
  | .list ds, _, p, .lst a r => .lst (.inl (.inl (e _ _ a))) (RepL.dp e ds _ p r)
  | .tuple ds, _, p, .tup a r => .tup (sq_t e a) (RepL.dp e ds _ p r)
theorem RepL.dp (e : Same F H) : ∀ (ds : List D) (vs : List V), plainL ds = true → RepL K h F vs ds → DpAll K H vs ds
  | [], _, _, .nil => .nil
  | d :: ds, _, p, .cons a r => by
    have q := Bool.and_eq_true_iff.mp (show (plain d && plainL ds) = true from p)
    exact .cons (Rep.dp e d _ q.1 a) (RepL.dp e ds _ q.2 r)
end
end

/-! ### growth -/
structure Gr (h : Hd) (F H F' H' : Hp) : Prop where
  ff : Same F F'
  fh : Same F' H'
  hh : ∀ p o, ¬ isH h p → H p = some o → H' p = some o
  st : ∀ p, H p ≠ none → H' p ≠ none
  nw : ∀ p, H p ≠ none → F p = none → F' p = none
structure Gp (F H F' H' : Hp) : Prop where
  ff : Same F F'
  fh : Same F' H'
  hh : Same H H'
  nw : ∀ p, H p ≠ none → F p = none → F' p = none
section
variable {h : Hd} {F H F1 H1 F2 H2 : Hp} {p : Addr} {o : HO}
theorem Gp.gr (g : Gp F H F1 H1) : Gr h F H F1 H1 := ⟨g.ff, g.fh, fun p o _ e => g.hh p o e, fun p e => by
  cases q : H p with
  | none => exact absurd q e
  | some o =>
    rw [g.hh p o q]
    exact (fun z => nomatch z), g.nw⟩
theorem Gr.refl (e : Same F H) : Gr h F H F H := ⟨Same.refl _, e, fun _ _ _ q => q, fun _ q => q, fun _ _ q => q⟩
theorem Gp.refl (e : Same F H) : Gp F H F H := ⟨Same.refl _, e, Same.refl _, fun _ _ q => q⟩
theorem Gr.trans (a : Gr h F H F1 H1) (b : Gr h F1 H1 F2 H2) : Gr h F H F2 H2 :=
  ⟨a.ff.trans b.ff, b.fh, fun p o n e => b.hh p o n (a.hh p o n e), fun p e => b.st p (a.st p e), fun p e q => b.nw p (a.st p e) (a.nw p e q)⟩
theorem Gp.trans (a : Gp F H F1 H1) (b : Gp F1 H1 F2 H2) : Gp F H F2 H2 :=
  ⟨a.ff.trans b.ff, b.fh, a.hh.trans b.hh, fun p e q => b.nw p ((a.gr (h := none)).st p e) (a.nw p e q)⟩
theorem same_new (e : H p = none) : Same H (upd H p o) := fun b u q => by
  rw [upd_ne (ne_of_none q e)]
  exact q
/-- a new object, known from then on -/
theorem Gp.new (e : Same F H) (n : H p = none) : Gp F H (upd F p o) (upd H p o) :=
  ⟨same_new (e.free n), fun b u q => by
    by_cases hb : b = p
    · subst hb
      rw [upd_same] at q ⊢
      exact q
    · rw [upd_ne hb] at q ⊢
      exact e b u q, same_new n, fun b hb q => by
    have nb : b ≠ p := fun z => hb (by rw [z]; exact n)
    rw [upd_ne nb]
    exact q⟩
/-- a new object, left out of F -/
theorem Gp.own (e : Same F H) (n : H p = none) : Gp F H F (upd H p o) :=
  ⟨Same.refl _, e.trans (same_new n), same_new n, fun _ _ q => q⟩
end

/-! ### the draws' two lists -/
def HdOk (h : Hd) (F H : Hp) (s : S) : Prop :=
  ∀ a b T, h = some (a, b, T) → a ≠ b ∧ F a = none ∧ F b = none ∧ H a = some (.lst [.ref b, .int s.2]) ∧ H b = some (.lst (s.1.map V.int)) ∧ ∀ t ∈ T, F t.1 = none ∧ LamX.TabS H t.1 t.2
theorem HdOk.gp {h : Hd} {F H F1 H1 : Hp} {s : S} (k : HdOk h F H s) (g : Gp F H F1 H1) : HdOk h F1 H1 s := fun a b T e => by
  obtain ⟨k0, k1, k2, k3, k4, k5⟩ := k a b T e
  refine ⟨k0, g.nw a (by rw [k3]; exact fun z => nomatch z) k1, g.nw b (by rw [k4]; exact fun z => nomatch z) k2, g.hh _ _ k3, g.hh _ _ k4, fun t ht => ?_⟩
  obtain ⟨u1, u2⟩ := k5 t ht
  obtain ⟨ps, u3, _⟩ := id u2
  exact ⟨g.nw t.1 (by rw [u3]; exact fun z => nomatch z) u1, u2.ext g.hh⟩
theorem HdOk.has {h : Hd} {F H : Hp} {s : S} (k : HdOk h F H s) {p : Addr} (e : isH h p) : H p ≠ none ∧ F p = none := by
  obtain ⟨a, b, T, e1, e2⟩ := e
  obtain ⟨k0, k1, k2, k3, k4, k5⟩ := k a b T e1
  rcases e2 with rfl | rfl | ⟨q, hq⟩
  · exact ⟨by rw [k3]; exact (fun z => nomatch z), k1⟩
  · exact ⟨by rw [k4]; exact (fun z => nomatch z), k2⟩
  · obtain ⟨u1, ps, u3, _⟩ := k5 _ hq
    exact ⟨by rw [u3]; exact (fun z => nomatch z), u1⟩

/-! ### slots -/
inductive Sl where
  | un
  | im (d : D)
  | ow (ds : List D)
abbrev Env := List Sl
def SlOk (K : PySem.W.Frag) (h : Hd) (F H : Hp) (o : Option V) : Sl → Prop
  | .un => True
  | .im d => ∃ v, o = some v ∧ Rep K h F v d
  | .ow ds => ∃ p vs, o = some (.ref p) ∧ F p = none ∧ ¬ isH h p ∧ H p = some (.lst vs) ∧ RepL K h F vs ds
structure Ok (K : PySem.W.Frag) (h : Hd) (F0 H0 : Hp) (σ : L2.St) (H F : Hp) (env : Env) (s : S) : Prop where
  len : σ.length = env.length
  sl : ∀ (i : Nat) (x : Sl), env[i]? = some x → ∃ o, σ[i]? = some o ∧ SlOk K h F H o x
  gr : Gr h F0 H0 F H
  hd : HdOk h F H s
  nw : ∀ (i : Nat) (ds : List D) (p : Addr), env[i]? = some (.ow ds) → σ[i]? = some (some (.ref p)) → H0 p = none
  dj : ∀ (i j : Nat) (ds es : List D) (p : Addr), i ≠ j → env[i]? = some (.ow ds) → env[j]? = some (.ow es) → σ[i]? = some (some (.ref p)) → σ[j]? = some (some (.ref p)) → False
section
variable {K : PySem.W.Frag} {h : Hd} {F0 H0 F H F' H' : Hp} {σ : L2.St} {env : Env} {s : S}
theorem SlOk.gr {o : Option V} {x : Sl} (k : SlOk K h F H o x) (g : Gr h F H F' H') : SlOk K h F' H' o x := by
  cases x with
  | un => trivial
  | im d =>
    obtain ⟨v, e, r⟩ := k
    exact ⟨v, e, r.up g.ff⟩
  | ow ds =>
    obtain ⟨p, vs, e, n, nh, hp, r⟩ := k
    exact ⟨p, vs, e, g.nw p (by rw [hp]; exact fun z => nomatch z) n, nh, g.hh _ _ nh hp, r.up g.ff⟩
theorem Ok.fh (k : Ok K h F0 H0 σ H F env s) : Same F H := k.gr.fh
/-- growth keeps what is known; the draws' state is told anew -/
theorem Ok.grow (k : Ok K h F0 H0 σ H F env s) (g : Gr h F H F' H') {s' : S} (q : HdOk h F' H' s') : Ok K h F0 H0 σ H' F' env s' :=
  ⟨k.len, fun i x e => by
    obtain ⟨o, e1, e2⟩ := k.sl i x e
    exact ⟨o, e1, e2.gr g⟩, k.gr.trans g, q, k.nw, k.dj⟩
theorem Ok.gp (k : Ok K h F0 H0 σ H F env s) (g : Gp F H F' H') : Ok K h F0 H0 σ H' F' env s := k.grow g.gr (k.hd.gp g)
end

/-! ### readings of expressions, tests, argument lists -/
abbrev EM (α : Type) := Env → S → Option (α × S)
section
variable (K : PySem.W.Frag) (h : Hd) (F0 H0 : Hp)
def rdE (m : EM D) : TE := fun σ H Q => ∃ F env s d s', Ok K h F0 H0 σ H F env s ∧ m env s = some (d, s') ∧
  ∀ v F' H', Gr h F H F' H' → Ok K h F0 H0 σ H' F' env s' → Rep K h F' v d → Q v H'
/-- a new list, not yet known to F -/
def rdL (m : EM (List D)) : TE := fun σ H Q => ∃ F env s ds s', Ok K h F0 H0 σ H F env s ∧ m env s = some (ds, s') ∧
  ∀ p vs F' H', H p = none → F' p = none → H' p = some (.lst vs) → RepL K h F' vs ds → Gr h F H F' H' → Ok K h F0 H0 σ H' F' env s' → Q (.ref p) H'
def rdA (m : EM (List D)) : TA := fun σ H Q => ∃ F env s ds s', Ok K h F0 H0 σ H F env s ∧ m env s = some (ds, s') ∧
  ∀ vs F' H', Gr h F H F' H' → Ok K h F0 H0 σ H' F' env s' → RepL K h F' vs ds → Q vs H'
def rdT (m : EM Bool) : TT := fun σ H Q => ∃ F env s b s', Ok K h F0 H0 σ H F env s ∧ m env s = some (b, s') ∧
  ∀ F' H', Gr h F H F' H' → Ok K h F0 H0 σ H' F' env s' → Q b H'
end
section
variable {X : Cx} {h : Hd} {F0 H0 : Hp}
theorem pe_w {e : Expr} {t u : TE} (k : PE X e t) (w : ∀ σ H Q, u σ H Q → t σ H Q) : PE X e u := ⟨fun pins s σ H Q I q => k.run pins s σ H Q I (w σ H Q q)⟩
theorem pt_w {e : Expr} {t u : TT} (k : PT X e t) (w : ∀ σ H Q, u σ H Q → t σ H Q) : PT X e u := ⟨fun pins s σ H Q I q => k.run pins s σ H Q I (w σ H Q q)⟩
theorem pw_w {e : Expr} {t u : TT} (k : PW X e t) (w : ∀ σ H Q, u σ H Q → t σ H Q) : PW X e u := ⟨fun wh pins s σ H Q I q => k.run wh pins s σ H Q I (w σ H Q q)⟩
theorem pa_w {es : List Expr} {t u : TA} (k : PA X es t) (w : ∀ σ H Q, u σ H Q → t σ H Q) : PA X es u := ⟨fun pos pins s σ H Q I q => k.run pos pins s σ H Q I (w σ H Q q)⟩
theorem ps_w {st : Stmt} {t u : TS} (k : PS X st t) (w : ∀ E σ H, u E σ H → t E σ H) : PS X st u := ⟨fun pins s σ H E I q => k.run pins s σ H E I (w E σ H q)⟩
theorem pss_w {st : List Stmt} {t u : TS} (k : PSs X st t) (w : ∀ E σ H, u E σ H → t E σ H) : PSs X st u := ⟨fun pins s σ H E I q => k.run pins s σ H E I (w E σ H q)⟩

/-! #### names, constants -/
def mVar (i : Nat) : EM D := fun env s => match env[i]? with
  | some (.im d) => some (d, s)
  | _ => none
def mC (d : D) : EM D := fun _ s => some (d, s)
theorem d_of_var {e : Expr} {i : Nat} (k : PE X e (tVar i)) : PE X e (rdE X.K h F0 H0 (mVar i)) := pe_w k fun σ H Q q => by
  obtain ⟨F, env, s, d, s', ok, e, c⟩ := q
  unfold mVar at e
  split at e
  · rename_i d' hi
    cases e
    obtain ⟨o, e1, v, rfl, r⟩ := ok.sl i _ hi
    exact ⟨v, e1, c v F H (.refl ok.fh) ok r⟩
  · cases e
theorem d_int {i : Int} {j pos} : PE X (.Constant (.int i) j pos) (rdE X.K h F0 H0 (mC (.int i))) := pe_w pe_int fun σ H Q q => by
  obtain ⟨F, env, s, d, s', ok, e, c⟩ := q
  cases e
  exact c _ F H (.refl ok.fh) ok (.int i)
theorem d_bl {b : Bool} {j pos} : PE X (.Constant (.bool b) j pos) (rdE X.K h F0 H0 (mC (.bool b))) := pe_w pe_bl fun σ H Q q => by
  obtain ⟨F, env, s, d, s', ok, e, c⟩ := q
  cases e
  exact c _ F H (.refl ok.fh) ok (.bl b)
theorem d_non {j pos} : PE X (.Constant .none j pos) (rdE X.K h F0 H0 (mC .none)) := pe_w pe_non fun σ H Q q => by
  obtain ⟨F, env, s, d, s', ok, e, c⟩ := q
  cases e
  exact c _ F H (.refl ok.fh) ok .non
theorem d_str {x : Str} {j pos} : PE X (.Constant (.str x) j pos) (rdE X.K h F0 H0 (mC (.str x))) := pe_w pe_str fun σ H Q q => by
  obtain ⟨F, env, s, d, s', ok, e, c⟩ := q
  cases e
  exact c _ F H (.refl ok.fh) ok (.str x)

/-! #### argument lists -/
def mNil : EM (List D) := fun _ s => some ([], s)
def mCons (m : EM D) (ms : EM (List D)) : EM (List D) := fun env s => (m env s).bind fun p => (ms env p.2).bind fun q => some (p.1 :: q.1, q.2)
theorem bind_some' {α β : Type} {o : Option α} {f : α → Option β} {b : β} (e : o.bind f = some b) : ∃ a, o = some a ∧ f a = some b := by
  cases o with
  | none => cases e
  | some a => exact ⟨a, rfl, e⟩
theorem d_nil : PA X [] (rdA X.K h F0 H0 mNil) := pa_w pa_nil fun σ H Q q => by
  obtain ⟨F, env, s, d, s', ok, e, c⟩ := q
  cases e
  exact c [] F H (.refl ok.fh) ok .nil
theorem d_cons {e : Expr} {es : List Expr} {m : EM D} {ms : EM (List D)} (k : PE X e (rdE X.K h F0 H0 m)) (ks : PA X es (rdA X.K h F0 H0 ms))
    (hs : starEach (e :: es) X.env = (false, eval e X.env) :: starEach es X.env := by rfl) : PA X (e :: es) (rdA X.K h F0 H0 (mCons m ms)) := pa_w (pa_cons k ks hs) fun σ H Q q => by
  obtain ⟨F, env, s, d, s', ok, e, c⟩ := q
  obtain ⟨⟨d1, s1⟩, e1, e⟩ := bind_some' e
  obtain ⟨⟨ds, s2⟩, e2, e⟩ := bind_some' e
  cases e
  refine ⟨F, env, s, d1, s1, ok, e1, fun v F1 H1 g1 ok1 r1 => ⟨F1, env, s1, ds, s2, ok1, e2, fun vs F2 H2 g2 ok2 r2 => ?_⟩⟩
  exact c _ F2 H2 (g1.trans g2) ok2 (.cons (r1.up g2.ff) r2)

/-! #### operators -/
def OpD (K : PySem.W.Frag) (r : R2) (f : D → D → Option D) : Prop :=
  ∀ (h : Hd) (F H : Hp) (v w : V) (d e g : D) (Q : VK), Same F H → Rep K h F v d → Rep K h F w e → f d e = some g → (∀ u F' H', Gp F H F' H' → Rep K h F' u g → Q u H') → r v w H Q
def UnD (K : PySem.W.Frag) (r : V → Hp → VK → Prop) (f : D → Option D) : Prop :=
  ∀ (h : Hd) (F H : Hp) (v : V) (d g : D) (Q : VK), Same F H → Rep K h F v d → f d = some g → (∀ u F' H', Gp F H F' H' → Rep K h F' u g → Q u H') → r v H Q
def CaD (K : PySem.W.Frag) (r : List V → Hp → VK → Prop) (f : List D → Option D) : Prop :=
  ∀ (h : Hd) (F H : Hp) (vs : List V) (ds : List D) (g : D) (Q : VK), Same F H → RepL K h F vs ds → f ds = some g → (∀ u F' H', Gp F H F' H' → Rep K h F' u g → Q u H') → r vs H Q
def mOp (f : D → D → Option D) (a b : EM D) : EM D := fun env s => (a env s).bind fun p => (b env p.2).bind fun q => (f p.1 q.1).bind fun g => some (g, q.2)
def mUn (f : D → Option D) (a : EM D) : EM D := fun env s => (a env s).bind fun p => (f p.1).bind fun g => some (g, p.2)
def mB (f : List D → Option D) (a : EM (List D)) : EM D := fun env s => (a env s).bind fun p => (f p.1).bind fun g => some (g, p.2)
theorem w_op {r : R2} {f : D → D → Option D} {ma mb : EM D} (hr : OpD X.K r f) : ∀ σ H Q, rdE X.K h F0 H0 (mOp f ma mb) σ H Q → tOp r (rdE X.K h F0 H0 ma) (rdE X.K h F0 H0 mb) σ H Q := fun σ H Q q => by
  obtain ⟨F, env, s, d, s', ok, e, c⟩ := q
  obtain ⟨⟨d1, s1⟩, e1, e⟩ := bind_some' e
  obtain ⟨⟨d2, s2⟩, e2, e⟩ := bind_some' e
  obtain ⟨g, e3, e⟩ := bind_some' e
  cases e
  refine ⟨F, env, s, d1, s1, ok, e1, fun v F1 H1 g1 ok1 r1 => ⟨F1, env, s1, d2, s2, ok1, e2, fun w F2 H2 g2 ok2 r2 => ?_⟩⟩
  exact hr h F2 H2 v w d1 d2 _ Q ok2.fh (r1.up g2.ff) r2 e3 fun u F3 H3 g3 r3 => c u F3 H3 ((g1.trans g2).trans g3.gr) (ok2.gp g3) r3
theorem d_bin {a b : Expr} {op : Operator} {pos : Pos} {r : R2} {f : D → D → Option D} {ma mb : EM D} (hr : OpD X.K r f) (ho : OpR X (binaryOp op) r) (ka : PE X a (rdE X.K h F0 H0 ma)) (kb : PE X b (rdE X.K h F0 H0 mb)) :
    PE X (.BinOp a op b pos) (rdE X.K h F0 H0 (mOp f ma mb)) := pe_w (pe_op ho ka kb) (w_op hr)
theorem d_cmp {a b : Expr} {op : CmpOp} {pos : Pos} {r : R2} {f : D → D → Option D} {ma mb : EM D} (hr : OpD X.K r f) (ho : OpR X (compareOp op) r) (ka : PE X a (rdE X.K h F0 H0 ma)) (kb : PE X b (rdE X.K h F0 H0 mb)) (hm : behindInMarks op b = false := by first | exact nomark _ | rfl) :
    PE X (.Compare a [op] [b] pos) (rdE X.K h F0 H0 (mOp f ma mb)) := pe_w (pe_cmpR ho ka kb hm) (w_op hr)
def mT (m : EM D) : EM Bool := fun env s => (m env s).bind fun p => match p.1 with
  | .bool b => some (b, p.2)
  | _ => none
theorem w_t {m : EM D} : ∀ σ H Q, rdT X.K h F0 H0 (mT m) σ H Q → tTest (rdE X.K h F0 H0 m) σ H Q := fun σ H Q q => by
  obtain ⟨F, env, s, b, s', ok, e, c⟩ := q
  obtain ⟨⟨d1, s1⟩, e1, e⟩ := bind_some' e
  cases d1 with
  | bool b1 =>
    cases e
    exact ⟨F, env, s, _, _, ok, e1, fun v F1 H1 g1 ok1 r1 => by
      cases r1
      exact ⟨_, rfl, c F1 H1 g1 ok1⟩⟩
  | _ => cases e
theorem d_tcmp {a b : Expr} {op : CmpOp} {pos : Pos} {r : R2} {f : D → D → Option D} {ma mb : EM D} (hr : OpD X.K r f) (ho : OpR X (compareOp op) r) (ka : PE X a (rdE X.K h F0 H0 ma)) (kb : PE X b (rdE X.K h F0 H0 mb)) (hm : behindInMarks op b = false := by first | exact nomark _ | rfl) :
    PT X (.Compare a [op] [b] pos) (rdT X.K h F0 H0 (mT (mOp f ma mb))) := by
  refine pt_w (pt_cmpR ho ka kb hm) fun σ H Q q => ?_
  have q2 := w_t (X := X) σ H Q q
  exact w_op hr σ H _ q2
/-- an expression whose value is True or False, as a test (no comparison, and, or, not) -/
theorem d_tval {e : Expr} {m : EM D} (k : PE X e (rdE X.K h F0 H0 m)) (he : ∀ whole, isTrue e X.env whole = (do let v ← whole; standAt e.pos; holding [v] (truthy v)) := by intro _; rfl) : PT X e (rdT X.K h F0 H0 (mT m)) :=
  pt_w (pt_val k he) fun σ H Q q => w_t (X := X) σ H Q q
theorem d_un {a : Expr} {op : UnaryOp} {pos : Pos} {r : V → Hp → VK → Prop} {f : D → Option D} {ma : EM D} (hr : UnD X.K r f) (ho : UnR X (unaryOp op) r) (ka : PE X a (rdE X.K h F0 H0 ma)) :
    PE X (.UnaryOp op a pos) (rdE X.K h F0 H0 (mUn f ma)) := pe_w (pe_un ho ka) fun σ H Q q => by
  obtain ⟨F, env, s, d, s', ok, e, c⟩ := q
  obtain ⟨⟨d1, s1⟩, e1, e⟩ := bind_some' e
  obtain ⟨g, e3, e⟩ := bind_some' e
  cases e
  refine ⟨F, env, s, d1, s1, ok, e1, fun v F1 H1 g1 ok1 r1 => ?_⟩
  exact hr h F1 H1 v d1 _ Q ok1.fh r1 e3 fun u F3 H3 g3 r3 => c u F3 H3 (g1.trans g3.gr) (ok1.gp g3) r3
/-- a built-in, called by its name -/
theorem w_b {r : List V → Hp → VK → Prop} {f : List D → Option D} {ma : EM (List D)} (hr : CaD X.K r f) : ∀ σ H Q, rdE X.K h F0 H0 (mB f ma) σ H Q → tCB r (rdA X.K h F0 H0 ma) σ H Q := fun σ H Q q => by
  obtain ⟨F, env, s, d, s', ok, e, c⟩ := q
  obtain ⟨⟨d1, s1⟩, e1, e⟩ := bind_some' e
  obtain ⟨g, e3, e⟩ := bind_some' e
  cases e
  refine ⟨F, env, s, d1, s1, ok, e1, fun v F1 H1 g1 ok1 r1 => ?_⟩
  exact hr h F1 H1 v d1 _ Q ok1.fh r1 e3 fun u F3 H3 g3 r3 => c u F3 H3 (g1.trans g3.gr) (ok1.gp g3) r3
theorem d_bi {x : Str} {id : String} {e : Expr} {es : List Expr} {p pos : Pos} {r : List V → Hp → VK → Prop} {f : List D → Option D} {ma : EM (List D)} (hr : CaD X.K r f) (hc : CallR X (.builtin id) r) (hg : Gl X x) (hm : X.mg x = none) (hv : bootBuiltins x = some (.builtin id))
    (ka : PA X (e :: es) (rdA X.K h F0 H0 ma)) (hn : x ≠ "__name__" := by decide) (hdb : (x == ("__debug__" : Str)) = false := by decide)
    (he : starEach (e :: es) X.env = (false, eval e X.env) :: starEach es X.env := by rfl) (hpl : (backTo pos (starEach es X.env)).any (·.1) = false := by rfl) :
    PE X (.Call (.Name x p) (e :: es) [] pos) (rdE X.K h F0 H0 (mB f ma)) := pe_w (pe_callB hc hg hm hv ka hn hdb he hpl) (w_b hr)
theorem d_ty {x : Str} {T : String} {e : Expr} {es : List Expr} {p pos : Pos} {r : List V → Hp → VK → Prop} {f : List D → Option D} {ma : EM (List D)} (hr : CaD X.K r f) (hc : CallR X (.type T) r) (hg : Gl X x) (hm : X.mg x = none) (hv : bootBuiltins x = some (.type T))
    (ka : PA X (e :: es) (rdA X.K h F0 H0 ma)) (hn : x ≠ "__name__" := by decide) (hdb : (x == ("__debug__" : Str)) = false := by decide)
    (he : starEach (e :: es) X.env = (false, eval e X.env) :: starEach es X.env := by rfl) (hpl : (backTo pos (starEach es X.env)).any (·.1) = false := by rfl) :
    PE X (.Call (.Name x p) (e :: es) [] pos) (rdE X.K h F0 H0 (mB f ma)) := pe_w (pe_callTy hc hg hm hv ka hn hdb he hpl) (w_b hr)
end
end DL
set_option Elab.async false
set_option linter.all false
set_option maxRecDepth 100000
set_option maxHeartbeats 4000000
/-! DL, part 2: new objects, views, calls, comprehensions. -/
namespace DL
open PySem PySem.Spec PyProof.Rows L2
section
variable {K : PySem.W.Frag} {h : Hd} {F0 H0 F H F' H' : Hp} {σ σ' : L2.St} {env : Env} {s : S} {p : Addr} {o : HO}
theorem TabS.mut {P : Addr} {q : Str} (t : LamX.TabS H P q) (hl : H p = none ∨ ∃ xs, H p = some (.lst xs)) : LamX.TabS (upd H p o) P q := by
  obtain ⟨ps, h1, h2, h3⟩ := t
  refine ⟨ps, ?_, h2, fun pos cv hc => ?_⟩
  · rw [upd_ne fun z => ?_]
    · exact h1
    · rw [z] at h1
      rcases hl with e | ⟨xs, e⟩ <;> rw [e] at h1 <;> cases h1
  · obtain ⟨c, e1, e2⟩ := h3 pos cv hc
    refine ⟨c, e1, ?_⟩
    rw [upd_ne fun z => ?_]
    · exact e2
    · rw [z] at e2
      rcases hl with e | ⟨xs, e⟩ <;> rw [e] at e2 <;> cases e2
theorem Gr.mut (g : Gr h F H F' H') (n : H p = none) (nf : F' p = none) : Gr h F H F' (upd H' p o) :=
  ⟨g.ff, fun b u q => by
    rw [upd_ne (ne_of_none q nf)]
    exact g.fh b u q, fun b u nb q => by
    rw [upd_ne (ne_of_none q n)]
    exact g.hh b u nb q, fun b q => by
    by_cases hb : b = p
    · rw [hb, upd_same]
      exact fun z => nomatch z
    · rw [upd_ne hb]
      exact g.st b q, g.nw⟩
/-- p is told to F from now on -/
theorem Gr.know (g : Gr h F H F' H') (n : H p = none) (nf : F' p = none) (e : H' p = some o) : Gr h F H (upd F' p o) H' :=
  ⟨g.ff.trans (same_new nf), fun b u q => by
    by_cases hb : b = p
    · rw [hb, upd_same] at q
      rw [hb, e]
      exact q
    · rw [upd_ne hb] at q
      exact g.fh b u q, g.hh, g.st, fun b q z => by
    have hb : b ≠ p := fun y => q (by rw [y]; exact n)
    rw [upd_ne hb]
    exact g.nw b q z⟩
theorem Ok.nohd (k : Ok K h F0 H0 σ H F env s) (n : H p = none) : ¬ isH h p := fun z => (k.hd.has z).1 n
theorem Ok.no0 (k : Ok K h F0 H0 σ H F env s) (n : H p = none) : H0 p = none := by
  cases q : H0 p with
  | none => rfl
  | some o => exact absurd n (k.gr.st p (by rw [q]; exact fun z => nomatch z))
theorem Ok.noow (k : Ok K h F0 H0 σ H F env s) (n : H p = none) : ∀ (i : Nat) (ds : List D), env[i]? = some (.ow ds) → σ[i]? ≠ some (some (.ref p)) := fun i ds e z => by
  obtain ⟨o, e1, q, vs, e2, _, _, e3, _⟩ := k.sl i _ e
  rw [e1] at z
  have z2 := Option.some.inj z
  rw [e2] at z2
  cases z2
  rw [n] at e3
  cases e3
/-- an object that neither F nor the slots know changes -/
theorem Ok.mut (k : Ok K h F0 H0 σ H F env s) (n0 : H0 p = none) (nf : F p = none) (nh : ¬ isH h p) (no : ∀ (i : Nat) (ds : List D), env[i]? = some (.ow ds) → σ[i]? ≠ some (some (.ref p))) (hl : H p = none ∨ ∃ xs, H p = some (.lst xs)) : Ok K h F0 H0 σ (upd H p o) F env s :=
  ⟨k.len, fun i x e => by
    obtain ⟨u, e1, e2⟩ := k.sl i x e
    refine ⟨u, e1, ?_⟩
    cases x with
    | un => trivial
    | im d => exact e2
    | ow ds =>
      obtain ⟨q, vs, eq, nq, nhq, hq, r⟩ := e2
      have hne : q ≠ p := fun z => no i ds e (by rw [e1, eq, z])
      exact ⟨q, vs, eq, nq, nhq, by rw [upd_ne hne]; exact hq, r⟩, k.gr.mut n0 nf, fun a b T e => by
    obtain ⟨k0, k1, k2, k3, k4, k5⟩ := k.hd a b T e
    have ha : a ≠ p := fun z => nh ⟨a, b, T, e, .inl z.symm⟩
    have hb : b ≠ p := fun z => nh ⟨a, b, T, e, .inr (.inl z.symm)⟩
    exact ⟨k0, k1, k2, by rw [upd_ne ha]; exact k3, by rw [upd_ne hb]; exact k4, fun t ht => ⟨(k5 t ht).1, TabS.mut (k5 t ht).2 hl⟩⟩, k.nw, k.dj⟩
/-- F comes to know p -/
theorem Ok.know (k : Ok K h F0 H0 σ H F env s) (n0 : H0 p = none) (nf : F p = none) (e : H p = some o) (nh : ¬ isH h p) (no : ∀ (i : Nat) (ds : List D), env[i]? = some (.ow ds) → σ[i]? ≠ some (some (.ref p))) :
    Ok K h F0 H0 σ H (upd F p o) env s :=
  ⟨k.len, fun i x ex => by
    obtain ⟨u, e1, e2⟩ := k.sl i x ex
    refine ⟨u, e1, ?_⟩
    cases x with
    | un => trivial
    | im d =>
      obtain ⟨v, ev, r⟩ := e2
      exact ⟨v, ev, r.up (same_new nf)⟩
    | ow ds =>
      obtain ⟨q, vs, eq, nq, nhq, hq, r⟩ := e2
      have hne : q ≠ p := fun z => no i ds ex (by rw [e1, eq, z])
      exact ⟨q, vs, eq, by rw [upd_ne hne]; exact nq, nhq, hq, r.up (same_new nf)⟩, k.gr.know n0 nf e, fun a b T q => by
    obtain ⟨k0, k1, k2, k3, k4, k5⟩ := k.hd a b T q
    have ha : a ≠ p := fun z => nh ⟨a, b, T, q, .inl z.symm⟩
    have hb : b ≠ p := fun z => nh ⟨a, b, T, q, .inr (.inl z.symm)⟩
    exact ⟨k0, by rw [upd_ne ha]; exact k1, by rw [upd_ne hb]; exact k2, k3, k4, fun t ht => ⟨by rw [upd_ne fun z => nh ⟨a, b, T, q, .inr (.inr ⟨t.2, by rw [← z]; exact ht⟩)⟩]; exact (k5 t ht).1, (k5 t ht).2⟩⟩, k.nw, k.dj⟩
end

/-! ### displays -/
theorem le1000 {n : Nat} (h : n ≤ 1000) : n ≤ sizeLine := Nat.le_of_lt (small1000 h)
def mTup (ms : EM (List D)) : EM D := fun env s => (ms env s).bind fun p => if p.1.length ≤ 1000 then some (.tuple p.1, p.2) else none
def mLst (ms : EM (List D)) : EM (List D) := fun env s => (ms env s).bind fun p => if p.1.length ≤ 1000 then some p else none
/-- a new list, known from now on -/
def mF (m : EM (List D)) : EM D := fun env s => (m env s).bind fun p => some (.list p.1, p.2)
section
variable {X : Cx} {h : Hd} {F0 H0 : Hp}
theorem d_tup {es : List Expr} {x1} {pos : Pos} {ms : EM (List D)} (k : PA X es (rdA X.K h F0 H0 ms)) : PE X (.Tuple es x1 pos) (rdE X.K h F0 H0 (mTup ms)) := pe_w (pe_tup k) fun σ H Q q => by
  obtain ⟨F, env, s, d, s', ok, e, c⟩ := q
  obtain ⟨⟨ds, s1⟩, e1, e⟩ := bind_some' e
  split at e
  · rename_i hl
    cases e
    refine ⟨F, env, s, ds, _, ok, e1, fun vs F1 H1 g1 ok1 r1 => ⟨by rw [r1.len]; exact le1000 hl, fun p np => ?_⟩⟩
    have g2 : Gp F1 H1 (upd F1 p (.tup vs)) (upd H1 p (.tup vs)) := .new ok1.fh np
    exact c _ _ _ (g1.trans g2.gr) (ok1.gp g2) (.tup (.inl (.inl upd_same)) (r1.up g2.ff))
  · cases e
theorem d_lst {es : List Expr} {pos : Pos} {ms : EM (List D)} (k : PA X es (rdA X.K h F0 H0 ms)) : PE X (.List es pos) (rdL X.K h F0 H0 (mLst ms)) := pe_w (pe_lst k) fun σ H Q q => by
  obtain ⟨F, env, s, d, s', ok, e, c⟩ := q
  obtain ⟨⟨ds, s1⟩, e1, e⟩ := bind_some' e
  split at e
  · rename_i hl
    cases e
    refine ⟨F, env, s, _, _, ok, e1, fun vs F1 H1 g1 ok1 r1 => ⟨by rw [r1.len]; exact le1000 hl, fun p np => ?_⟩⟩
    have g2 : Gp F1 H1 F1 (upd H1 p (.lst vs)) := .own ok1.fh np
    have hp : H p = none := by
      cases q : H p with
      | none => rfl
      | some o => exact absurd np (g1.st p (by rw [q]; exact fun z => nomatch z))
    exact c p vs _ _ hp (ok1.fh.free np) upd_same r1 (g1.trans g2.gr) (ok1.gp g2)
  · cases e
theorem d_known {e : Expr} {m : EM (List D)} (k : PE X e (rdL X.K h F0 H0 m)) : PE X e (rdE X.K h F0 H0 (mF m)) := pe_w k fun σ H Q q => by
  obtain ⟨F, env, s, d, s', ok, e, c⟩ := q
  obtain ⟨⟨ds, s1⟩, e1, e⟩ := bind_some' e
  cases e
  refine ⟨F, env, s, ds, _, ok, e1, fun p vs F1 H1 np nf ep r g ok1 => ?_⟩
  have no : ∀ (i : Nat) (ds : List D), env[i]? = some (.ow ds) → σ[i]? ≠ some (some (.ref p)) := ok.noow np
  exact c _ _ _ (g.know np nf ep) (ok1.know (ok.no0 np) nf ep (ok.nohd np) no) (.lst upd_same (r.up (same_new nf)))

/-! ### if, and, or, not -/
def mIf (t : EM Bool) (a b : EM D) : EM D := fun env s => (t env s).bind fun p => if p.1 = true then a env p.2 else b env p.2
theorem d_if {c a b : Expr} {pos : Pos} {mt : EM Bool} {ma mb : EM D} (kc : PT X c (rdT X.K h F0 H0 mt)) (ka : PE X a (rdE X.K h F0 H0 ma)) (kb : PE X b (rdE X.K h F0 H0 mb)) : PE X (.IfExp c a b pos) (rdE X.K h F0 H0 (mIf mt ma mb)) :=
  pe_w (pe_ifExp kc ka kb) fun σ H Q q => by
    obtain ⟨F, env, s, d, s', ok, e, c⟩ := q
    obtain ⟨⟨b1, s1⟩, e1, e⟩ := bind_some' e
    refine ⟨F, env, s, b1, s1, ok, e1, fun F1 H1 g1 ok1 => ?_⟩
    cases b1 with
    | true =>
      rw [if_pos rfl] at e ⊢
      exact ⟨F1, env, s1, d, s', ok1, e, fun v F2 H2 g2 ok2 r2 => c v F2 H2 (g1.trans g2) ok2 r2⟩
    | false =>
      rw [if_neg Bool.false_ne_true] at e ⊢
      exact ⟨F1, env, s1, d, s', ok1, e, fun v F2 H2 g2 ok2 r2 => c v F2 H2 (g1.trans g2) ok2 r2⟩
def tmAnd (a b : EM Bool) : EM Bool := fun env s => (a env s).bind fun p => if p.1 = true then b env p.2 else some (false, p.2)
def tmOr (a b : EM Bool) : EM Bool := fun env s => (a env s).bind fun p => if p.1 = true then some (true, p.2) else b env p.2
def tmNot (a : EM Bool) : EM Bool := fun env s => (a env s).bind fun p => some (!p.1, p.2)
section
variable {a b : Expr} {rest : List Expr} {pos : Pos} {ma mb : EM Bool}
theorem d_and1 (k : PT X a (rdT X.K h F0 H0 ma)) : PW X (.BoolOp .And [a] pos) (rdT X.K h F0 H0 ma) := pw_and1 k
theorem d_or1 (k : PT X a (rdT X.K h F0 H0 ma)) : PW X (.BoolOp .Or [a] pos) (rdT X.K h F0 H0 ma) := pw_or1 k
theorem d_and (ka : PT X a (rdT X.K h F0 H0 ma)) (kb : PW X (.BoolOp .And (b :: rest) pos) (rdT X.K h F0 H0 mb)) : PW X (.BoolOp .And (a :: b :: rest) pos) (rdT X.K h F0 H0 (tmAnd ma mb)) :=
  pw_w (pw_and ka kb) fun σ H Q q => by
    obtain ⟨F, env, s, d, s', ok, e, c⟩ := q
    obtain ⟨⟨b1, s1⟩, e1, e⟩ := bind_some' e
    refine ⟨F, env, s, b1, s1, ok, e1, fun F1 H1 g1 ok1 => ?_⟩
    cases b1 with
    | true =>
      rw [if_pos rfl] at e ⊢
      exact ⟨F1, env, s1, d, s', ok1, e, fun F2 H2 g2 ok2 => c F2 H2 (g1.trans g2) ok2⟩
    | false =>
      rw [if_neg Bool.false_ne_true] at e ⊢
      cases e
      exact c F1 H1 g1 ok1
theorem d_or (ka : PT X a (rdT X.K h F0 H0 ma)) (kb : PW X (.BoolOp .Or (b :: rest) pos) (rdT X.K h F0 H0 mb)) : PW X (.BoolOp .Or (a :: b :: rest) pos) (rdT X.K h F0 H0 (tmOr ma mb)) :=
  pw_w (pw_or ka kb) fun σ H Q q => by
    obtain ⟨F, env, s, d, s', ok, e, c⟩ := q
    obtain ⟨⟨b1, s1⟩, e1, e⟩ := bind_some' e
    refine ⟨F, env, s, b1, s1, ok, e1, fun F1 H1 g1 ok1 => ?_⟩
    cases b1 with
    | true =>
      rw [if_pos rfl] at e ⊢
      cases e
      exact c F1 H1 g1 ok1
    | false =>
      rw [if_neg Bool.false_ne_true] at e ⊢
      exact ⟨F1, env, s1, d, s', ok1, e, fun F2 H2 g2 ok2 => c F2 H2 (g1.trans g2) ok2⟩
theorem d_not (ka : PT X a (rdT X.K h F0 H0 ma)) : PT X (.UnaryOp .Not a pos) (rdT X.K h F0 H0 (tmNot ma)) := pt_w (pt_not ka) fun σ H Q q => by
  obtain ⟨F, env, s, d, s', ok, e, c⟩ := q
  obtain ⟨⟨b1, s1⟩, e1, e⟩ := bind_some' e
  cases e
  exact ⟨F, env, s, b1, _, ok, e1, fun F1 H1 g1 ok1 => c F1 H1 g1 ok1⟩
end
/-- .. as values, bools all -/
def mAnd (a b : EM D) : EM D := fun env s => (a env s).bind fun p => match p.1 with
  | .bool c => if c = true then b env p.2 else some (.bool false, p.2)
  | _ => none
def mOr (a b : EM D) : EM D := fun env s => (a env s).bind fun p => match p.1 with
  | .bool c => if c = true then some (.bool true, p.2) else b env p.2
  | _ => none
def mNot (a : EM D) : EM D := fun env s => (a env s).bind fun p => match p.1 with
  | .bool c => some (.bool (!c), p.2)
  | _ => none
section
variable {a b : Expr} {rest : List Expr} {pos : Pos} {ma mb : EM D} {op : BoolOp}
theorem d_one (k : PE X a (rdE X.K h F0 H0 ma)) : PE X (.BoolOp op [a] pos) (rdE X.K h F0 H0 ma) := pe_one k
theorem d_andV (ka : PE X a (rdE X.K h F0 H0 ma)) (kb : PE X (.BoolOp .And (b :: rest) pos) (rdE X.K h F0 H0 mb)) : PE X (.BoolOp .And (a :: b :: rest) pos) (rdE X.K h F0 H0 (mAnd ma mb)) :=
  pe_w (pe_and ka kb) fun σ H Q q => by
    obtain ⟨F, env, s, d, s', ok, e, c⟩ := q
    obtain ⟨⟨d1, s1⟩, e1, e⟩ := bind_some' e
    cases d1 with
    | bool b1 =>
      refine ⟨F, env, s, _, s1, ok, e1, fun v F1 H1 g1 ok1 r1 => ?_⟩
      cases r1
      refine ⟨b1, rfl, ?_⟩
      cases b1 with
      | true =>
        simp only [if_true] at e ⊢
        exact ⟨F1, env, s1, d, s', ok1, e, fun v F2 H2 g2 ok2 r2 => c v F2 H2 (g1.trans g2) ok2 r2⟩
      | false =>
        simp only [Bool.false_eq_true, if_false] at e ⊢
        cases e
        exact c _ F1 H1 g1 ok1 (.bl false)
    | _ => cases e
theorem d_orV (ka : PE X a (rdE X.K h F0 H0 ma)) (kb : PE X (.BoolOp .Or (b :: rest) pos) (rdE X.K h F0 H0 mb)) : PE X (.BoolOp .Or (a :: b :: rest) pos) (rdE X.K h F0 H0 (mOr ma mb)) :=
  pe_w (pe_or ka kb) fun σ H Q q => by
    obtain ⟨F, env, s, d, s', ok, e, c⟩ := q
    obtain ⟨⟨d1, s1⟩, e1, e⟩ := bind_some' e
    cases d1 with
    | bool b1 =>
      refine ⟨F, env, s, _, s1, ok, e1, fun v F1 H1 g1 ok1 r1 => ?_⟩
      cases r1
      refine ⟨b1, rfl, ?_⟩
      cases b1 with
      | true =>
        simp only [if_true] at e ⊢
        cases e
        exact c _ F1 H1 g1 ok1 (.bl true)
      | false =>
        simp only [Bool.false_eq_true, if_false] at e ⊢
        exact ⟨F1, env, s1, d, s', ok1, e, fun v F2 H2 g2 ok2 r2 => c v F2 H2 (g1.trans g2) ok2 r2⟩
    | _ => cases e
theorem d_notV (ka : PE X a (rdE X.K h F0 H0 ma)) : PE X (.UnaryOp .Not a pos) (rdE X.K h F0 H0 (mNot ma)) := pe_w (pe_not ka) fun σ H Q q => by
  obtain ⟨F, env, s, d, s', ok, e, c⟩ := q
  obtain ⟨⟨d1, s1⟩, e1, e⟩ := bind_some' e
  cases d1 with
  | bool b1 =>
    cases e
    refine ⟨F, env, s, _, _, ok, e1, fun v F1 H1 g1 ok1 r1 => ?_⟩
    cases r1
    exact ⟨b1, rfl, c _ F1 H1 g1 ok1 (.bl _)⟩
  | _ => cases e
end

/-! ### a view: what is owned is read as it stands; the answer is flat -/
def view : Sl → Sl
  | .ow ds => .im (.list ds)
  | x => x
def flatD : D → Bool
  | .none => true
  | .bool _ => true
  | .int _ => true
  | .str _ => true
  | _ => false
theorem Rep.flat {K : PySem.W.Frag} {F F' : Hp} {v : V} {d : D} (r : Rep K h F v d) (f : flatD d = true) : Rep K h F' v d := by
  cases r with
  | non => exact .non
  | bl b => exact .bl b
  | int i => exact .int i
  | str x => exact .str x
  | lst _ _ => cases f
  | tup _ _ => cases f
  | hn _ => cases f
  | sq _ => cases f
def OwnAt (σ : L2.St) (env : Env) (q : Addr) : Prop := ∃ (i : Nat) (ds : List D), env[i]? = some (.ow ds) ∧ σ[i]? = some (some (.ref q))
open Classical in
noncomputable def seen (σ : L2.St) (env : Env) (F H : Hp) : Hp := fun q => if OwnAt σ env q then H q else F q
section
variable {K : PySem.W.Frag} {F H : Hp} {σ : L2.St} {env : Env} {s : S}
theorem Ok.own (k : Ok K h F0 H0 σ H F env s) {q : Addr} (o : OwnAt σ env q) : F q = none ∧ ¬ isH h q ∧ H0 q = none := by
  obtain ⟨i, ds, e1, e2⟩ := o
  obtain ⟨u, e3, p, vs, e4, n, nh, _, _⟩ := k.sl i _ e1
  rw [e3] at e2
  have e5 := Option.some.inj e2
  rw [e4] at e5
  cases e5
  exact ⟨n, nh, k.nw i ds _ e1 (by rw [e3, e4])⟩
theorem seen_own {q : Addr} (o : OwnAt σ env q) : seen σ env F H q = H q := if_pos o
theorem seen_no {q : Addr} (o : ¬ OwnAt σ env q) : seen σ env F H q = F q := if_neg o
theorem Ok.seen_up (k : Ok K h F0 H0 σ H F env s) : Same F (seen σ env F H) := fun b u q => by
  rw [seen_no (fun o => by rw [(k.own o).1] at q; cases q)]
  exact q
theorem view_ow {i : Nat} {ds : List D} (e : (env.map view)[i]? = some (.ow ds)) : False := by
  rw [List.getElem?_map] at e
  cases ei : env[i]? with
  | none =>
    rw [ei] at e
    cases e
  | some y =>
    rw [ei] at e
    cases y <;> cases e
theorem Ok.seen (k : Ok K h F0 H0 σ H F env s) : Ok K h F0 H0 σ H (seen σ env F H) (env.map view) s :=
  ⟨by rw [List.length_map]; exact k.len, fun i x e => by
    rw [List.getElem?_map] at e
    cases ei : env[i]? with
    | none =>
      rw [ei] at e
      cases e
    | some y =>
      rw [ei] at e
      have e' : view y = x := Option.some.inj e
      obtain ⟨u, e1, e2⟩ := k.sl i y ei
      refine ⟨u, e1, ?_⟩
      subst e'
      cases y with
      | un => trivial
      | im d =>
        obtain ⟨v, ev, r⟩ := e2
        exact ⟨v, ev, r.up k.seen_up⟩
      | ow ds =>
        obtain ⟨p, vs, ep, n, nh, hp, r⟩ := e2
        refine ⟨_, ep, .lst (xs := vs) ?_ (r.up k.seen_up)⟩
        rw [seen_own ⟨i, ds, ei, by rw [e1, ep]⟩]
        exact hp,
   ⟨k.gr.ff.trans k.seen_up, fun b u q => by
      by_cases o : OwnAt σ env b
      · rw [seen_own o] at q
        exact q
      · rw [seen_no o] at q
        exact k.fh b u q, k.gr.hh, k.gr.st, fun b q z => by
      rw [seen_no (fun o => q (k.own o).2.2)]
      exact k.gr.nw b q z⟩,
   fun a b T e => by
    obtain ⟨k0, k1, k2, k3, k4, k5⟩ := k.hd a b T e
    exact ⟨k0, by rw [seen_no (fun o => (k.own o).2.1 ⟨a, b, T, e, .inl rfl⟩)]; exact k1, by rw [seen_no (fun o => (k.own o).2.1 ⟨a, b, T, e, .inr (.inl rfl)⟩)]; exact k2, k3, k4, fun t ht => ⟨by rw [seen_no (fun o => (k.own o).2.1 ⟨a, b, T, e, .inr (.inr ⟨_, ht⟩)⟩)]; exact (k5 t ht).1, (k5 t ht).2⟩⟩,
   fun i ds p e _ => (view_ow e).elim, fun i j ds es p _ e _ _ _ => (view_ow e).elim⟩
/-- behind a view: F as it was -/
theorem Ok.unseen {F1 H1 : Hp} {s' : S} (k : Ok K h F0 H0 σ H F env s) (g : Gr h (DL.seen σ env F H) H F1 H1) (q : HdOk h F1 H1 s') : Gr h F H F H1 ∧ Ok K h F0 H0 σ H1 F env s' := by
  have g2 : Gr h F H F H1 := ⟨Same.refl _, fun b u q => g.fh b u (g.ff b u (k.seen_up b u q)), g.hh, g.st, fun _ _ q => q⟩
  exact ⟨g2, k.grow g2 fun a b T e => by
    obtain ⟨k0, k1, k2, _, _, k6⟩ := k.hd a b T e
    obtain ⟨_, _, _, k3, k4, k5⟩ := q a b T e
    exact ⟨k0, k1, k2, k3, k4, fun t ht => ⟨(k6 t ht).1, (k5 t ht).2⟩⟩⟩
end
def mView (m : EM D) : EM D := fun env s => (m (env.map view) s).bind fun p => if flatD p.1 = true then some p else none
def tmView (m : EM Bool) : EM Bool := fun env s => m (env.map view) s
theorem d_view {e : Expr} {m : EM D} (k : PE X e (rdE X.K h F0 H0 m)) : PE X e (rdE X.K h F0 H0 (mView m)) := pe_w k fun σ H Q q => by
  obtain ⟨F, env, s, d, s', ok, e, c⟩ := q
  obtain ⟨⟨d1, s1⟩, e1, e⟩ := bind_some' e
  split at e
  · rename_i hf
    cases e
    refine ⟨_, _, s, _, _, ok.seen, e1, fun v F1 H1 g1 ok1 r1 => ?_⟩
    obtain ⟨g2, ok2⟩ := ok.unseen g1 ok1.hd
    exact c v F H1 g2 ok2 (r1.flat hf)
  · cases e
theorem d_viewT {e : Expr} {m : EM Bool} (k : PT X e (rdT X.K h F0 H0 m)) : PT X e (rdT X.K h F0 H0 (tmView m)) := pt_w k fun σ H Q q => by
  obtain ⟨F, env, s, d, s', ok, e, c⟩ := q
  refine ⟨_, _, s, d, s', ok.seen, e, fun F1 H1 g1 ok1 => ?_⟩
  obtain ⟨g2, ok2⟩ := ok.unseen g1 ok1.hd
  exact c F H1 g2 ok2

/-! ### calls -/
abbrev Fn := List D → S → Option (D × S)
def spD (K : PySem.W.Frag) (φ : Fn) : Sp := fun vs H Q _ => ∃ (h : Hd) (F : Hp) (ds : List D) (s : S) (d : D) (s' : S), Same F H ∧ HdOk h F H s ∧ RepL K h F vs ds ∧ φ ds s = some (d, s') ∧
  ∀ v F' H', Gr h F H F' H' → HdOk h F' H' s' → Rep K h F' v d → Q v H'
structure Fc (P : Program) (w : World) (K : PySem.W.Frag) (mg : Str → Option Value) (base : Heap) (k : Nat) (x : Str) (φ : Fn) : Prop where
  ex : ∃ (f : Addr) (fd : FuncData) (ps : List Str), FnOk P w K mg base CX0 k f fd ps (spD K φ) ∧ mg x = some (.ref f) ∧ PySem.W.keepIn K (.ref f) = true ∧ Binds K fd ps []
theorem Fc.mono {P : Program} {w : World} {K : PySem.W.Frag} {mg : Str → Option Value} {base : Heap} {k j : Nat} {x : Str} {φ : Fn} (c : Fc P w K mg base k x φ) (l : k ≤ j) : Fc P w K mg base j x φ := by
  obtain ⟨f, fd, ps, F, a, b, d⟩ := c.ex
  exact ⟨f, fd, ps, F.mono l, a, b, d⟩
def mCall (φ : Fn) (ma : EM (List D)) : EM D := fun env s => (ma env s).bind fun p => φ p.1 p.2
theorem d_call {x : Str} {e : Expr} {es : List Expr} {p pos : Pos} {k : Nat} {φ : Fn} {ma : EM (List D)} (c : Fc X.prog X.w X.K X.mg X.base k x φ) (hr : Room k X.A) (hg : Gl X x) (ka : PA X (e :: es) (rdA X.K h F0 H0 ma)) (hdb : (x == ("__debug__" : Str)) = false := by decide)
    (he : starEach (e :: es) X.env = (false, eval e X.env) :: starEach es X.env := by rfl) (hpl : (backTo pos (starEach es X.env)).any (·.1) = false := by rfl) : PE X (.Call (.Name x p) (e :: es) [] pos) (rdE X.K h F0 H0 (mCall φ ma)) := by
  obtain ⟨f, fd, ps, G, hm, hk, hb⟩ := c.ex
  refine pe_w (pe_call G hr hg hm hk hb .nil pass0 ka hdb he hpl) fun σ H Q q => ?_
  obtain ⟨F, env, s, d, s', ok, e, c⟩ := q
  obtain ⟨⟨ds, s1⟩, e1, e⟩ := bind_some' e
  refine ⟨F, env, s, ds, s1, ok, e1, fun vs F1 H1 g1 ok1 r1 => ?_⟩
  show spD X.K φ (vs ++ []) H1 Q E0
  rw [List.append_nil]
  exact ⟨h, F1, ds, s1, d, s', ok1.fh, ok1.hd, r1, e, fun v F2 H2 g2 hd2 r2 => c v F2 H2 (g1.trans g2) (ok1.grow g2 hd2) r2⟩
theorem d_call0 {x : Str} {p pos : Pos} {k : Nat} {φ : Fn} (c : Fc X.prog X.w X.K X.mg X.base k x φ) (hr : Room k X.A) (hg : Gl X x) (hdb : (x == ("__debug__" : Str)) = false := by decide) : PE X (.Call (.Name x p) [] [] pos) (rdE X.K h F0 H0 (mCall φ mNil)) := by
  obtain ⟨f, fd, ps, G, hm, hk, hb⟩ := c.ex
  refine pe_w (pe_call0 G hr hg hm hk hb .nil pass0 hdb) fun σ H Q q => ?_
  obtain ⟨F, env, s, d, s', ok, e, c⟩ := q
  obtain ⟨⟨ds, s1⟩, e1, e⟩ := bind_some' e
  cases e1
  show spD X.K φ ([] ++ []) H Q E0
  exact ⟨h, F, [], s, d, s', ok.fh, ok.hd, .nil, e, fun v F2 H2 g2 hd2 r2 => c v F2 H2 g2 (ok.grow g2 hd2) r2⟩
end
end DL
set_option Elab.async false
set_option linter.all false
set_option maxRecDepth 100000
set_option maxHeartbeats 4000000
/-! DL, part 3: stores, walks, comprehensions, statements, defs. -/
namespace DL
open PySem PySem.Spec PyProof.Rows L2

/-! ### slots stored -/
section
variable {K : PySem.W.Frag} {h : Hd} {F0 H0 F H F' H' : Hp} {σ σ' : L2.St} {env : Env} {s : S} {p : Addr} {o : HO}
theorem Ok.put (k : Ok K h F0 H0 σ H F env s) (i : Nat) (u : Option V) (x : Sl) (q : SlOk K h F H u x)
    (c : ∀ (ds : List D) (p : Addr), x = .ow ds → u = some (.ref p) → H0 p = none ∧ ∀ (j : Nat) (es : List D), j ≠ i → env[j]? = some (.ow es) → σ[j]? ≠ some (some (.ref p))) : Ok K h F0 H0 (σ.set i u) H F (env.set i x) s := by
  have gt : ∀ (j : Nat) (y : Sl), (env.set i x)[j]? = some y → (j = i ∧ y = x ∧ (σ.set i u)[j]? = some u) ∨ (j ≠ i ∧ env[j]? = some y ∧ (σ.set i u)[j]? = σ[j]?) := fun j y e => by
    rw [List.getElem?_set] at e
    rw [List.getElem?_set]
    by_cases hj : i = j
    · rw [if_pos hj] at e
      rw [if_pos hj]
      by_cases hl : i < env.length
      · rw [if_pos (by first | exact hl | exact hj ▸ hl)] at e
        rw [if_pos (by rw [k.len]; first | exact hl | exact hj ▸ hl)]
        exact .inl ⟨hj.symm, (Option.some.inj e).symm, rfl⟩
      · rw [if_neg (by first | exact hl | exact hj ▸ hl)] at e
        cases e
    · rw [if_neg hj] at e
      rw [if_neg hj]
      exact .inr ⟨fun z => hj z.symm, e, rfl⟩
  refine ⟨by rw [List.length_set, List.length_set]; exact k.len, fun j y e => ?_, k.gr, k.hd, fun j ds p e e2 => ?_, fun j l ds es p hjl e1 e2 e3 e4 => ?_⟩
  · rcases gt j y e with ⟨rfl, rfl, e2⟩ | ⟨hj, e1, e2⟩
    · exact ⟨u, e2, q⟩
    · obtain ⟨o, e3, e4⟩ := k.sl j y e1
      exact ⟨o, e2.trans e3, e4⟩
  · rcases gt j _ e with ⟨rfl, e1, e3⟩ | ⟨hj, e1, e3⟩
    · rw [e3] at e2
      exact (c ds p e1.symm (Option.some.inj e2)).1
    · rw [e3] at e2
      exact k.nw j ds p e1 e2
  · rcases gt j _ e1 with ⟨rfl, z1, z2⟩ | ⟨hj, z1, z2⟩
    · rcases gt l _ e2 with ⟨rfl, y1, y2⟩ | ⟨hl, y1, y2⟩
      · exact hjl rfl
      · rw [z2] at e3
        rw [y2] at e4
        exact (c ds p z1.symm (Option.some.inj e3)).2 l es hl y1 e4
    · rcases gt l _ e2 with ⟨rfl, y1, y2⟩ | ⟨hl, y1, y2⟩
      · rw [z2] at e3
        rw [y2] at e4
        exact (c es p y1.symm (Option.some.inj e4)).2 j ds hj z1 e3
      · rw [z2] at e3
        rw [y2] at e4
        exact k.dj j l ds es p hjl z1 y1 e3 e4
theorem Ok.set (k : Ok K h F0 H0 σ H F env s) (i : Nat) {v : V} {d : D} (r : Rep K h F v d) : Ok K h F0 H0 (σ.set i (some v)) H F (env.set i (.im d)) s :=
  k.put i (some v) (.im d) ⟨v, rfl, r⟩ fun _ _ z => nomatch z
theorem Ok.unset (k : Ok K h F0 H0 σ H F env s) (i : Nat) (u : Option V) : Ok K h F0 H0 (σ.set i u) H F (env.set i .un) s :=
  k.put i u .un trivial fun _ _ z => nomatch z
/-- a slot is no longer told -/
theorem Ok.forget (k : Ok K h F0 H0 σ H F env s) (i : Nat) : Ok K h F0 H0 σ H F (env.set i .un) s := by
  by_cases hi : i < σ.length
  · have e : σ.set i σ[i] = σ := List.set_getElem_self hi
    have q := k.unset i σ[i]
    rw [e] at q
    exact q
  · have e : env.set i .un = env := List.set_eq_of_length_le (by rw [← k.len]; omega)
    rw [e]
    exact k
/-- a new list goes to a slot -/
theorem Ok.setO (k0 : Ok K h F0 H0 σ H' F' env s) {H : Hp} {s0 : S} {F : Hp} (k : Ok K h F0 H0 σ H F env s0) (i : Nat) {vs : List V} {ds : List D} (n : H p = none) (nf : F' p = none) (e : H' p = some (.lst vs)) (r : RepL K h F' vs ds) :
    Ok K h F0 H0 (σ.set i (some (.ref p))) H' F' (env.set i (.ow ds)) s :=
  k0.put i (some (.ref p)) (.ow ds) ⟨p, vs, rfl, nf, k.nohd n, e, r⟩ fun es q _ e2 => by
    have e3 : p = q := V.ref.inj (Option.some.inj e2)
    subst e3
    exact ⟨k.no0 n, fun j es _ hj => k.noow n j es hj⟩
/-- an owned list is changed -/
theorem Ok.chg (k : Ok K h F0 H0 σ H F env s) {i : Nat} {ds es : List D} {ws : List V} (e : env[i]? = some (.ow ds)) (e2 : σ[i]? = some (some (.ref p))) (r : RepL K h F ws es) : Ok K h F0 H0 σ (upd H p (.lst ws)) F (env.set i (.ow es)) s := by
  have n0 := k.nw i ds p e e2
  obtain ⟨u, e3, q, vs, rfl, nf, nh, hp, _⟩ := k.sl i _ e
  rw [e3] at e2
  cases e2
  have k1 := k.forget i
  have no : ∀ (j : Nat) (fs : List D), (env.set i .un)[j]? = some (.ow fs) → σ[j]? ≠ some (some (.ref p)) := fun j fs ej z => by
    rw [List.getElem?_set] at ej
    by_cases hj : i = j
    · rw [if_pos hj] at ej
      split at ej <;> cases ej
    · rw [if_neg hj] at ej
      exact k.dj i j ds fs p hj e ej e3 z
  have k2 := k1.mut (o := .lst ws) n0 nf nh no (.inr ⟨_, hp⟩)
  have k3 := k2.put i (some (.ref p)) (.ow es) ⟨p, ws, rfl, nf, nh, upd_same, r⟩ fun fs q _ eq => by
    have e4 : p = q := V.ref.inj (Option.some.inj eq)
    subst e4
    exact ⟨n0, fun j es hj ej => no j es ej⟩
  have es : σ.set i (some (.ref p)) = σ := by
    obtain ⟨hl, hg⟩ := List.getElem?_eq_some_iff.mp e3
    rw [← hg]
    exact List.set_getElem_self hl
  rw [es, List.set_set] at k3
  exact k3
/-- an owned list becomes known -/
theorem Ok.freeze (k : Ok K h F0 H0 σ H F env s) {i : Nat} {ds : List D} (e : env[i]? = some (.ow ds)) : ∃ F1, Same F F1 ∧ Ok K h F0 H0 σ H F1 (env.set i (.im (.list ds))) s := by
  obtain ⟨u, e3, p, vs, rfl, nf, nh, hp, r⟩ := k.sl i _ e
  have n0 := k.nw i ds p e e3
  have k1 := k.forget i
  have no : ∀ (j : Nat) (fs : List D), (env.set i .un)[j]? = some (.ow fs) → σ[j]? ≠ some (some (.ref p)) := fun j fs ej z => by
    rw [List.getElem?_set] at ej
    by_cases hj : i = j
    · rw [if_pos hj] at ej
      split at ej <;> cases ej
    · rw [if_neg hj] at ej
      exact k.dj i j ds fs p hj e ej e3 z
  have k2 := k1.know n0 nf hp nh no
  have k3 := k2.set i (Rep.lst (ds := ds) upd_same (r.up (same_new nf)))
  have es : σ.set i (some (.ref p)) = σ := by
    obtain ⟨hl, hg⟩ := List.getElem?_eq_some_iff.mp e3
    rw [← hg]
    exact List.set_getElem_self hl
  rw [es, List.set_set] at k3
  exact ⟨_, same_new nf, k3⟩
end

/-! ### targets -/
abbrev GM := D → Env → Option Env
/-- alike but for the slots of ts -/
def Off (ts : List Nat) (σ' σ : L2.St) : Prop := (∀ j : Nat, j ∉ ts → σ'[j]? = σ[j]?) ∧ σ'.length = σ.length
section
variable (K : PySem.W.Frag) (h : Hd) (F0 H0 : Hp)
/-- gm stores at slots of ts alone -/
def rdG (ts : List Nat) (gm : GM) : TG := fun v σ H Q => ∃ F env s d env', Ok K h F0 H0 σ H F env s ∧ Rep K h F v d ∧ gm d env = some env' ∧
  ∀ σ', Ok K h F0 H0 σ' H F env' s → Off ts σ' σ → Q σ' H
def rdGs (ts : List Nat) (gm : List D → Env → Option Env) : TGs := fun vs σ H Q => ∃ F env s ds env', Ok K h F0 H0 σ H F env s ∧ RepL K h F vs ds ∧ gm ds env = some env' ∧
  ∀ σ', Ok K h F0 H0 σ' H F env' s → Off ts σ' σ → Q σ' H
end
def gN (i : Nat) : GM := fun d env => some (env.set i (.im d))
def gsNil : List D → Env → Option Env := fun ds env => match ds with
  | [] => some env
  | _ => none
def gsCons (g : GM) (gs : List D → Env → Option Env) : List D → Env → Option Env := fun ds env => match ds with
  | d :: ds => (g d env).bind fun e => gs ds e
  | _ => none
def gT (n : Nat) (gs : List D → Env → Option Env) : GM := fun d env => match d with
  | .tuple ds => if ds.length = n then gs ds env else none
  | _ => none
section
variable {X : Cx} {h : Hd} {F0 H0 : Hp}
theorem pg_w {e : Expr} {t u : TG} (k : PG X e t) (w : ∀ v σ H Q, u v σ H Q → t v σ H Q) : PG X e u := ⟨fun pins s σ H v uv Q I r q => k.run pins s σ H v uv Q I r (w v σ H Q q)⟩
theorem pgs_w {es : List Expr} {t u : TGs} (k : PGs X es t) (w : ∀ v σ H Q, u v σ H Q → t v σ H Q) : PGs X es u := ⟨fun pins s σ H v uv Q I r q => k.run pins s σ H v uv Q I r (w v σ H Q q)⟩
theorem set_other {σ : L2.St} {i : Nat} {u : Option V} : Off [i] (σ.set i u) σ := ⟨fun j hj => List.getElem?_set_ne (fun z => hj (by rw [z]; exact List.mem_singleton_self _)), by rw [List.length_set]⟩
theorem g_name {i : Nat} {x : Str} {pos : Pos} (hN : X.N.Nodup) (hi : X.N[i]? = some x) (hx : Loc X.env.scope x) (hf : X.fn x = true ∨ X.env.scope.names.lookup x = some .local := by first | exact .inl rfl | exact .inr rfl | assumption) :
    PG X (.Name x pos) (rdG X.K h F0 H0 [i] (gN i)) := pg_w (pg_name hN hi hx hf) fun v σ H Q q => by
  obtain ⟨F, env, s, d, env', ok, r, e, c⟩ := q
  cases e
  exact c _ (ok.set i r) set_other
theorem g_nil : PGs X [] (rdGs X.K h F0 H0 [] gsNil) := pgs_w pgs_nil fun vs σ H Q q => by
  obtain ⟨F, env, s, d, env', ok, r, e, c⟩ := q
  cases d with
  | nil =>
    cases e
    cases r
    exact ⟨rfl, c σ ok ⟨fun _ _ => rfl, rfl⟩⟩
  | cons _ _ => cases e
theorem g_cons {e : Expr} {es : List Expr} {ts us : List Nat} {g : GM} {gs : List D → Env → Option Env} (k : PG X e (rdG X.K h F0 H0 ts g)) (ks : PGs X es (rdGs X.K h F0 H0 us gs))
    (hs : (assignEach (e :: es) X.env).map (·.2) = assign e X.env :: (assignEach es X.env).map (·.2) := by rfl) : PGs X (e :: es) (rdGs X.K h F0 H0 (ts ++ us) (gsCons g gs)) := pgs_w (pgs_cons k ks hs) fun vs σ H Q q => by
  obtain ⟨F, env, s, ds, env', ok, r, e, c⟩ := q
  cases ds with
  | nil => cases e
  | cons d ds =>
    obtain ⟨e1, e2, e3⟩ := bind_some' e
    cases r with
    | cons r1 r2 =>
      refine ⟨_, _, rfl, F, env, s, d, e1, ok, r1, e2, fun σ1 ok1 o1 => ⟨F, e1, s, ds, env', ok1, r2, e3, fun σ2 ok2 o2 => c σ2 ok2 ⟨fun j hj => ?_, o2.2.trans o1.2⟩⟩⟩
      rw [o2.1 j (fun z => hj (List.mem_append_right _ z)), o1.1 j (fun z => hj (List.mem_append_left _ z))]
theorem g_tup {es : List Expr} {kk : Nat} {pos : Pos} {n : Nat} {ts : List Nat} {gs : List D → Env → Option Env} (hc : X.calm = true) (k : PGs X es (rdGs X.K h F0 H0 ts gs))
    (hn : (assignEach es X.env).length = n := by rfl) (hst : (assignEach es X.env).findIdx? (·.1) = none := by rfl) : PG X (.Tuple es kk pos) (rdG X.K h F0 H0 ts (gT n gs)) := pg_w (pg_tup hc k hn hst) fun v σ H Q q => by
  obtain ⟨F, env, s, d, env', ok, r, e, c⟩ := q
  cases d with
  | tuple ds =>
    have e' : (if ds.length = n then gs ds env else none) = some env' := e
    split at e'
    · rename_i hl
      cases r with
      | tup hs rl => exact ⟨_, _, rfl, sq_t ok.fh hs, by rw [rl.len, hl], F, env, s, ds, env', ok, rl, e', c⟩
    · cases e'
  | _ => cases e
end

/-! ### what is walked -/
def Yields (K : PySem.W.Frag) (h : Hd) (J : It) (F1 : Hp) (ds : List D) : Prop :=
  (∀ i F H d, Same F1 F → Same F H → ds[i]? = some d → J.go i H ∧ ∀ x H', J.yld i H x H' → ∃ F', Gp F H F' H' ∧ Rep K h F' x d) ∧ ∀ i F H, Same F1 F → Same F H → ds.length ≤ i → J.stop i H
def rdI (K : PySem.W.Frag) (h : Hd) (F0 H0 : Hp) (m : EM (List D)) : TI := fun σ H R => ∃ F env s ds s', Ok K h F0 H0 σ H F env s ∧ m env s = some (ds, s') ∧
  ∀ J F' H', Gr h F H F' H' → Ok K h F0 H0 σ H' F' env s' → Yields K h J F' ds → R J H'
section
variable {X : Cx} {h : Hd} {F0 H0 : Hp}
theorem pi_w {tg e : Expr} {t u : TI} (k : PI X tg e t) (w : ∀ σ H R, u σ H R → t σ H R) : PI X tg e u := ⟨fun pins s σ H R I q => k.run pins s σ H R I (w σ H R q)⟩
theorem pi_or {tg e : Expr} {t u : TI} (k : PI X tg e t) (l : PI X tg e u) : PI X tg e (fun σ H R => t σ H R ∨ u σ H R) := ⟨fun pins s σ H R I q => q.elim (k.run pins s σ H R I) (l.run pins s σ H R I)⟩
def seqD : D → Option (List D)
  | .list ds => some ds
  | .tuple ds => some ds
  | _ => none
def mItems (m : EM D) : EM (List D) := fun env s => (m env s).bind fun p => (seqD p.1).bind fun ds => some (ds, p.2)
theorem yl_list {K : PySem.W.Frag} {a : Addr} {vs : List V} {ds : List D} {F1 : Hp} (e : F1 a = some (.lst vs)) (r : RepL K h F1 vs ds) : Yields K h (Itl K a) F1 ds := by
  have g : ∀ {F H : Hp}, Same F1 F → Same F H → SqL K H a vs := fun s1 s2 => .of (s2 _ _ (s1 _ _ e))
  refine ⟨fun i F H d s1 s2 ed => ?_, fun i F H s1 s2 hl => ⟨vs, g s1 s2, by rw [r.len]; exact hl⟩⟩
  obtain ⟨v, ev, rv⟩ := r.get ed
  refine ⟨⟨vs, v, g s1 s2, ev⟩, fun x H' y => ?_⟩
  obtain ⟨rfl, y⟩ := y
  have ex := y vs (g s1 s2)
  rw [ev] at ex
  cases ex
  exact ⟨F, .refl s2, rv.up s1⟩
theorem yl_tup {K : PySem.W.Frag} {a : Addr} {vs : List V} {ds : List D} {F1 : Hp} (e : SqT K F1 a vs) (r : RepL K h F1 vs ds) : Yields K h (Itt K a) F1 ds := by
  have g : ∀ {F H : Hp}, Same F1 F → Same F H → SqT K H a vs := fun s1 s2 => sq_t s2 (sq_t s1 e)
  refine ⟨fun i F H d s1 s2 ed => ?_, fun i F H s1 s2 hl => ⟨vs, g s1 s2, by rw [r.len]; exact hl⟩⟩
  obtain ⟨v, ev, rv⟩ := r.get ed
  refine ⟨⟨vs, v, g s1 s2, ev⟩, fun x H' y => ?_⟩
  obtain ⟨rfl, y⟩ := y
  have ex := y vs (g s1 s2)
  rw [ev] at ex
  cases ex
  exact ⟨F, .refl s2, rv.up s1⟩
theorem i_seq {tg l : Expr} {m : EM D} (k : PE X l (rdE X.K h F0 H0 m)) : PI X tg l (rdI X.K h F0 H0 (mItems m)) := pi_w (pi_or (pi_list k) (pi_tup k)) fun σ H R q => by
  obtain ⟨F, env, s, ds, s', ok, e, c⟩ := q
  obtain ⟨⟨d1, s1⟩, e1, e⟩ := bind_some' e
  cases d1 with
  | list es =>
    cases e
    exact .inl ⟨F, env, s, _, _, ok, e1, fun v F1 H1 g1 ok1 r1 => by
      cases r1 with
      | lst a r => exact ⟨_, rfl, ⟨_, .of (ok1.fh _ _ a)⟩, c _ F1 H1 g1 ok1 (yl_list a r)⟩⟩
  | tuple es =>
    cases e
    exact .inr ⟨F, env, s, _, _, ok, e1, fun v F1 H1 g1 ok1 r1 => by
      cases r1 with
      | tup a r => exact ⟨_, rfl, ⟨_, sq_t ok1.fh a⟩, c _ F1 H1 g1 ok1 (yl_tup a r)⟩⟩
  | _ => cases e
/-- range -/
def rgD (lo hi : Int) : List D := (List.range (hi - lo).toNat).map fun i => .int (lo + (i : Nat))
def rgOk (lo hi : Int) : Bool := decide (-(2 ^ 62) ≤ lo ∧ lo < 2 ^ 62 ∧ -(2 ^ 62) ≤ hi ∧ hi < 2 ^ 62)
def mRg1 (m : EM (List D)) : EM (List D) := fun env s => (m env s).bind fun p => match p.1 with
  | [.int j] => if rgOk 0 j = true then some (rgD 0 j, p.2) else none
  | _ => none
def mRg2 (m : EM (List D)) : EM (List D) := fun env s => (m env s).bind fun p => match p.1 with
  | [.int i, .int j] => if rgOk i j = true then some (rgD i j, p.2) else none
  | _ => none
theorem yl_rg {K : PySem.W.Frag} {lo hi : Int} {F1 : Hp} : Yields K h (Itr lo (hi - lo).toNat) F1 (rgD lo hi) := by
  have hl : (rgD lo hi).length = (hi - lo).toNat := by
    unfold rgD
    rw [List.length_map, List.length_range]
  refine ⟨fun i F H d s1 s2 ed => ?_, fun i F H s1 s2 hi => by rw [hl] at hi; exact hi⟩
  have hi : i < (hi - lo).toNat := by
    have z := (List.getElem?_eq_some_iff.mp ed).1
    rw [hl] at z
    exact z
  refine ⟨hi, fun x H' y => ?_⟩
  obtain ⟨rfl, rfl⟩ := y
  unfold rgD at ed
  rw [List.getElem?_map, List.getElem?_range hi] at ed
  cases ed
  exact ⟨F, .refl s2, .int _⟩
theorem i_rg1 {tg a : Expr} {p pos : Pos} {m : EM (List D)} (hg : Gl X "range") (hm : X.mg "range" = none) (ka : PA X [a] (rdA X.K h F0 H0 m)) (hs : starEach [a] X.env = [(false, eval a X.env)] := by rfl) :
    PI X tg (.Call (.Name "range" p) [a] [] pos) (rdI X.K h F0 H0 (mRg1 m)) := pi_w (pi_range1 hg hm ka hs) fun σ H R q => by
  obtain ⟨F, env, s, ds, s', ok, e, c⟩ := q
  obtain ⟨⟨d1, s1⟩, e1, e⟩ := bind_some' e
  refine ⟨F, env, s, d1, s1, ok, e1, fun vs F1 H1 g1 ok1 r1 => ?_⟩
  dsimp only at e
  split at e
  · rename_i j
    split at e
    · rename_i hr
      cases e
      cases r1 with
      | cons ra rb =>
        cases ra
        cases rb
        have hr' := of_decide_eq_true hr
        refine ⟨j, rfl, hr'.2.2.1, hr'.2.2.2, ?_⟩
        have y := yl_rg (K := X.K) (h := h) (lo := 0) (hi := j) (F1 := F1)
        rw [Int.sub_zero] at y
        exact c _ F1 H1 g1 ok1 y
    · cases e
  · cases e
theorem i_rg2 {tg a b : Expr} {p pos : Pos} {m : EM (List D)} (hg : Gl X "range") (hm : X.mg "range" = none) (ka : PA X [a, b] (rdA X.K h F0 H0 m)) (hs : starEach [a, b] X.env = [(false, eval a X.env), (false, eval b X.env)] := by rfl) (hs2 : starEach [b] X.env = [(false, eval b X.env)] := by rfl) :
    PI X tg (.Call (.Name "range" p) [a, b] [] pos) (rdI X.K h F0 H0 (mRg2 m)) := pi_w (pi_range2 hg hm ka hs hs2) fun σ H R q => by
  obtain ⟨F, env, s, ds, s', ok, e, c⟩ := q
  obtain ⟨⟨d1, s1⟩, e1, e⟩ := bind_some' e
  refine ⟨F, env, s, d1, s1, ok, e1, fun vs F1 H1 g1 ok1 r1 => ?_⟩
  dsimp only at e
  split at e
  · rename_i i j
    split at e
    · rename_i hr
      cases e
      cases r1 with
      | cons ra rb =>
        cases ra
        cases rb with
        | cons rb rc =>
          cases rb
          cases rc
          exact ⟨i, j, rfl, of_decide_eq_true hr, c _ F1 H1 g1 ok1 yl_rg⟩
    · cases e
  · cases e
end

/-! ### comprehensions -/
def wipeE (env : Env) : List Nat → Env
  | [] => env
  | v :: vs => (wipeE env vs).set v .un
def lcL (g : GM) (t : EM Bool) (e : EM D) (env : Env) : List D → S → Option (List D × S)
  | [], s => some ([], s)
  | d :: ds, s => (g d env).bind fun env1 => (t env1 s).bind fun p => if p.1 = true then (e env1 p.2).bind fun q => (lcL g t e env ds q.2).bind fun r => some (q.1 :: r.1, r.2) else lcL g t e env ds p.2
def mLc (mi : EM (List D)) (vs : List Nat) (g : GM) (t : EM Bool) (e : EM D) : EM (List D) := fun env s => (mi env s).bind fun p => if p.1.length ≤ 1000000 then lcL g t e (wipeE env vs) p.1 p.2 else none
theorem Ok.wipe {K : PySem.W.Frag} {h : Hd} {F0 H0 F H : Hp} {σ : L2.St} {env : Env} {s : S} (k : Ok K h F0 H0 σ H F env s) : ∀ vs : List Nat, Ok K h F0 H0 (L2.wipe σ vs) H F (wipeE env vs) s
  | [] => k
  | v :: vs => (Ok.wipe k vs).unset v none
theorem wipe_at {σ : L2.St} {j : Nat} : ∀ {vs : List Nat}, j ∈ vs → (L2.wipe σ vs)[j]? = if j < σ.length then some none else none
  | v :: vs, hj => by
    show ((L2.wipe σ vs).set v none)[j]? = _
    rw [List.getElem?_set, wipe_length]
    by_cases e : v = j
    · subst e
      rw [if_pos rfl]
    · rw [if_neg e]
      exact wipe_at ((List.mem_cons.mp hj).resolve_left (fun z => e z.symm))
theorem wipe_off {σ : L2.St} {j : Nat} : ∀ {vs : List Nat}, j ∉ vs → (L2.wipe σ vs)[j]? = σ[j]?
  | [], _ => rfl
  | v :: vs, hj => by
    show ((L2.wipe σ vs).set v none)[j]? = _
    rw [List.getElem?_set_ne (fun z => hj (by rw [z]; exact List.mem_cons_self ..))]
    exact wipe_off (fun z => hj (List.mem_cons_of_mem _ z))
theorem wipe_wipe {σ σ2 : L2.St} {ts vs : List Nat} (o : Off ts σ2 (L2.wipe σ vs)) (hs : ∀ j ∈ ts, j ∈ vs) : L2.wipe σ2 vs = L2.wipe σ vs := by
  have l : σ2.length = σ.length := o.2.trans (wipe_length σ vs)
  apply List.ext_getElem?
  intro j
  by_cases hj : j ∈ vs
  · rw [wipe_at hj, wipe_at hj, l]
  · rw [wipe_off hj, o.1 j (fun z => hj (hs j z))]
section
variable {X : Cx} {h : Hd} {F0 H0 : Hp}
theorem w_lc {mi : EM (List D)} {ts vs : List Nat} {g : GM} {t : EM Bool} {e : EM D} (hts : ∀ j ∈ ts, j ∈ vs) : ∀ σ H Q, rdL X.K h F0 H0 (mLc mi vs g t e) σ H Q →
    tLc (rdI X.K h F0 H0 mi) (rdG X.K h F0 H0 ts g) (rdT X.K h F0 H0 t) (rdE X.K h F0 H0 e) vs σ H Q := fun σ H Q q => by
  obtain ⟨F, env, s, ds, s', ok, em, c⟩ := q
  obtain ⟨⟨its, s1⟩, e1, em⟩ := bind_some' em
  dsimp only at em
  split at em
  case isFalse => cases em
  rename_i hlen
  refine ⟨F, env, s, its, s1, ok, e1, fun J F1 H1 g1 ok1 yl => ?_⟩
  intro Da nD
  have nD0 : H Da = none := by
    cases q : H Da with
    | none => rfl
    | some o => exact absurd nD (g1.st Da (by rw [q]; exact fun z => nomatch z))
  have g2 : Gp F1 H1 F1 (upd H1 Da (.lst [])) := .own ok1.fh nD
  have nh : ¬ isH h Da := ok1.nohd nD
  refine ⟨fun i m H' => m = its.length - i ∧ i ≤ its.length ∧ ∃ (F' : Hp) (s2 : S) (acc : List D) (va : List V) (ys : List D), Same F1 F' ∧ Gr h F H F' H' ∧ Ok X.K h F0 H0 σ H' F' env s2 ∧ F' Da = none ∧ H' Da = some (.lst va) ∧ RepL X.K h F' va acc ∧
    acc.length ≤ i ∧ lcL g t e (wipeE env vs) (its.drop i) s2 = some (ys, s') ∧ acc ++ ys = ds, ⟨its.length, by rw [Nat.sub_zero], Nat.zero_le _, F1, s1, [], [], ds, Same.refl _, g1.trans g2.gr, ok1.gp g2, ok1.fh.free nD, upd_same, .nil, Nat.le_refl _, em, rfl⟩, ?_⟩
  rintro i m H' ⟨rfl, hi, F', s2, acc, va, ys, sm, gr, ok2, nf, ha, ra, hacc, el, ey⟩
  by_cases hlt : i < its.length
  · have ed : its[i]? = some its[i] := List.getElem?_eq_getElem hlt
    have edr : its.drop i = its[i] :: its.drop (i + 1) := List.drop_eq_getElem_cons hlt
    rw [edr] at el
    obtain ⟨env1, eg, el⟩ := bind_some' el
    obtain ⟨⟨b, s3⟩, et, el⟩ := bind_some' el
    obtain ⟨go, yld⟩ := yl.1 i F' H' its[i] sm ok2.fh ed
    refine .inr ⟨go, fun H2 => ∃ (F2 : Hp) (s4 : S) (acc : List D) (va : List V) (ys : List D), Same F1 F2 ∧ Gr h F H F2 H2 ∧ Ok X.K h F0 H0 σ H2 F2 env s4 ∧ F2 Da = none ∧ H2 Da = some (.lst va) ∧ RepL X.K h F2 va acc ∧
      acc.length ≤ i + 1 ∧ lcL g t e (wipeE env vs) (its.drop (i + 1)) s4 = some (ys, s') ∧ acc ++ ys = ds, fun H2 hN => ⟨its.length - (i + 1), by omega, rfl, hlt, hN⟩, fun x H2 hy => ?_⟩
    obtain ⟨F2, gp, rx⟩ := yld x H2 hy
    have ok3 := ok2.gp gp
    have hD2 : H2 Da = some (.lst va) := gp.hh _ _ ha
    have nf2 : F2 Da = none := gp.nw Da (by rw [ha]; exact fun z => nomatch z) nf
    refine ⟨F2, wipeE env vs, s2, its[i], env1, ok3.wipe vs, rx, eg, fun σ2 ok4 off => ⟨wipe_wipe off hts, ?_⟩⟩
    refine ⟨F2, env1, s2, b, s3, ok4, et, fun F3 H3 g3 ok5 => ?_⟩
    have hD3 : H3 Da = some (.lst va) := g3.hh _ _ nh hD2
    have nf3 : F3 Da = none := g3.nw Da (by rw [hD2]; exact fun z => nomatch z) nf2
    have gr3 : Gr h F H F3 H3 := (gr.trans gp.gr).trans g3
    have ok6 : Ok X.K h F0 H0 σ H3 F3 env s3 := ok3.grow g3 ok5.hd
    cases b with
    | true =>
      simp only [if_true] at el ⊢
      obtain ⟨⟨y, s4⟩, ee, el⟩ := bind_some' el
      obtain ⟨⟨ys2, s5⟩, er, el⟩ := bind_some' el
      cases el
      refine ⟨F3, env1, s3, y, s4, ok5, ee, fun yv F4 H4 g4 ok7 ry => ?_⟩
      have hD4 : H4 Da = some (.lst va) := g4.hh _ _ nh hD3
      have nf4 : F4 Da = none := g4.nw Da (by rw [hD3]; exact fun z => nomatch z) nf3
      have sm4 : Same F1 F4 := ((sm.trans gp.ff).trans g3.ff).trans g4.ff
      have ra4 : RepL X.K h F4 va acc := ra.up ((gp.ff.trans g3.ff).trans g4.ff)
      refine ⟨va, hD4, by rw [ra4.len]; exact Nat.lt_of_le_of_lt (show acc.length ≤ 1000000 by omega) (by decide), F4, s4, acc ++ [y], va ++ [yv], ys2, sm4, (gr3.trans g4).mut nD0 nf4, ?_, nf4, upd_same, ra4.append (.one ry), by rw [List.length_append, List.length_singleton]; omega, er, ?_⟩
      · exact (ok6.grow g4 ok7.hd).mut (ok.no0 nD0) nf4 nh (ok.noow nD0) (.inr ⟨_, hD4⟩)
      · rw [List.append_assoc]
        exact ey
    | false =>
      simp only [Bool.false_eq_true, if_false] at el ⊢
      exact ⟨F3, s3, acc, va, ys, (sm.trans gp.ff).trans g3.ff, gr3, ok6, nf3, hD3, ra.up (gp.ff.trans g3.ff), by omega, el, ey⟩
  · have hie : its.length ≤ i := by omega
    rw [List.drop_eq_nil_of_le hie] at el
    cases el
    rw [List.append_nil] at ey
    subst ey
    exact .inl ⟨yl.2 i F' H' sm ok2.fh hie, c Da va F' H' nD0 nf ha ra gr ok2⟩
end
end DL
set_option Elab.async false
set_option linter.all false
set_option maxRecDepth 100000
set_option maxHeartbeats 4000000
/-! DL, part 4: statements, defs. -/
namespace DL
open PySem PySem.Spec PyProof.Rows L2

inductive Ou where
  | nx (env : Env) (s : S)
  | rt (d : D) (s : S)
  | bk (env : Env) (s : S)
  | ct (env : Env) (s : S)
  | er (c : Str) (d : D) (env : Env) (s : S)
abbrev SM := Env → S → Option Ou
section
variable (K : PySem.W.Frag) (h : Hd) (F0 H0 : Hp) (mg : Str → Option Value) (W : WX)
def Post (F1 : Hp) (E : Ends) : Ou → Prop
  | .nx env s => ∀ σ H F, Same F1 F → Ok K h F0 H0 σ H F env s → E.nx σ H
  | .rt d s => ∀ v H F, Gr h F0 H0 F H → HdOk h F H s → Rep K h F v d → E.rt v H
  | .bk env s => ∀ σ H F, Same F1 F → Ok K h F0 H0 σ H F env s → E.bk σ H
  | .ct env s => ∀ σ H F, Same F1 F → Ok K h F0 H0 σ H F env s → E.ct σ H
  | .er c d env s => ∀ (C dd : Addr) (v : V) σ H F, Same F1 F → mg c = some (.ref C) → Ok K h F0 H0 σ H F env s → Rep K h F v d → H dd = some (.xd [("at", v)]) → W (.ref C) (some dd) σ H
def rdS (m : SM) : TS := fun E σ H => ∃ F env s o, Ok K h F0 H0 σ H F env s ∧ m env s = some o ∧ Post K h F0 H0 mg W F E o
end
theorem Post.up {K : PySem.W.Frag} {h : Hd} {F0 H0 F1 F2 : Hp} {mg : Str → Option Value} {W : WX} {E : Ends} {o : Ou} (c : Post K h F0 H0 mg W F1 E o) (e : Same F1 F2) : Post K h F0 H0 mg W F2 E o := by
  cases o with
  | nx env s => exact fun σ H F sm ok => c σ H F (e.trans sm) ok
  | rt d s => exact c
  | bk env s => exact fun σ H F sm ok => c σ H F (e.trans sm) ok
  | ct env s => exact fun σ H F sm ok => c σ H F (e.trans sm) ok
  | er n d env s => exact fun C dd v σ H F sm em ok => c C dd v σ H F (e.trans sm) em ok
/-! ### blocks -/
def mNext : SM := fun env s => some (.nx env s)
def mSeq (a b : SM) : SM := fun env s => (a env s).bind fun o => match o with
  | .nx env1 s1 => b env1 s1
  | o => some o
def mBrk : SM := fun env s => some (.bk env s)
def mCt : SM := fun env s => some (.ct env s)
section
variable {X : Cx} {h : Hd} {F0 H0 : Hp} {W : WX}
theorem s_nil : PSs X [] (rdS X.K h F0 H0 X.mg W mNext) := pss_w pss_nil fun E σ H q => by
  obtain ⟨F, env, s, o, ok, e, c⟩ := q
  cases e
  exact c σ H F (Same.refl _) ok
theorem w_seq {a b : SM} : ∀ E σ H, rdS X.K h F0 H0 X.mg W (mSeq a b) E σ H → tSeq (rdS X.K h F0 H0 X.mg W a) (rdS X.K h F0 H0 X.mg W b) E σ H := fun E σ H q => by
  obtain ⟨F, env, s, o, ok, e, c⟩ := q
  obtain ⟨o1, e1, e2⟩ := bind_some' e
  refine ⟨F, env, s, o1, ok, e1, ?_⟩
  cases o1 with
  | nx env1 s1 => exact fun σ1 H1 F1 sm ok1 => ⟨F1, env1, s1, o, ok1, e2, c.up sm⟩
  | rt d s1 =>
    cases e2
    exact c
  | bk env1 s1 =>
    cases e2
    exact c
  | ct env1 s1 =>
    cases e2
    exact c
  | er n d env1 s1 =>
    cases e2
    exact c
theorem s_cons {st : Stmt} {rest : List Stmt} {a b : SM} (k : PS X st (rdS X.K h F0 H0 X.mg W a)) (ks : PSs X rest (rdS X.K h F0 H0 X.mg W b)) : PSs X (st :: rest) (rdS X.K h F0 H0 X.mg W (mSeq a b)) := pss_w (pss_cons k ks) w_seq
theorem s_one {st : Stmt} {a : SM} (k : PS X st (rdS X.K h F0 H0 X.mg W a)) : PSs X [st] (rdS X.K h F0 H0 X.mg W a) := pss_one k
theorem s_pass {pos : Pos} : PS X (.Pass pos) (rdS X.K h F0 H0 X.mg W mNext) := ps_w ps_pass fun E σ H q => by
  obtain ⟨F, env, s, o, ok, e, c⟩ := q
  cases e
  exact c σ H F (Same.refl _) ok
theorem s_brk {pos : Pos} : PS X (.Break pos) (rdS X.K h F0 H0 X.mg W mBrk) := ps_w ps_break fun E σ H q => by
  obtain ⟨F, env, s, o, ok, e, c⟩ := q
  cases e
  exact c σ H F (Same.refl _) ok
theorem s_ct {pos : Pos} : PS X (.Continue pos) (rdS X.K h F0 H0 X.mg W mCt) := ps_w ps_continue fun E σ H q => by
  obtain ⟨F, env, s, o, ok, e, c⟩ := q
  cases e
  exact c σ H F (Same.refl _) ok
def mNever : SM := fun _ _ => none
theorem s_never {st : Stmt} : PS X st (rdS X.K h F0 H0 X.mg W mNever) := ps_w ps_never fun E σ H q => by
  obtain ⟨F, env, s, o, ok, e, c⟩ := q
  cases e
/-! ### return -/
def mRet (m : EM D) : SM := fun env s => (m env s).bind fun p => some (.rt p.1 p.2)
theorem s_ret {e : Expr} {pos : Pos} {m : EM D} (k : PE X e (rdE X.K h F0 H0 m)) : PS X (.Return (some e) pos) (rdS X.K h F0 H0 X.mg W (mRet m)) := ps_w (ps_ret k) fun E σ H q => by
  obtain ⟨F, env, s, o, ok, e, c⟩ := q
  obtain ⟨⟨d, s1⟩, e1, e⟩ := bind_some' e
  cases e
  exact ⟨F, env, s, d, s1, ok, e1, fun v F1 H1 g1 ok1 r1 => c v H1 F1 ok1.gr ok1.hd r1⟩
def mRetN : SM := fun _ s => some (.rt .none s)
theorem s_retN {pos : Pos} : PS X (.Return none pos) (rdS X.K h F0 H0 X.mg W mRetN) := ps_w ps_retN fun E σ H q => by
  obtain ⟨F, env, s, o, ok, e, c⟩ := q
  cases e
  exact c _ H F ok.gr ok.hd .non
/-! ### x = e -/
def mSet (i : Nat) (m : EM D) : SM := fun env s => (m env s).bind fun p => some (.nx (env.set i (.im p.1)) p.2)
def mSetO (i : Nat) (m : EM (List D)) : SM := fun env s => (m env s).bind fun p => some (.nx (env.set i (.ow p.1)) p.2)
theorem w_set {i : Nat} {m : EM D} : ∀ E σ H, rdS X.K h F0 H0 X.mg W (mSet i m) E σ H → tAsg (rdE X.K h F0 H0 m) (gName i) E σ H := fun E σ H q => by
  obtain ⟨F, env, s, o, ok, e, c⟩ := q
  obtain ⟨⟨d, s1⟩, e1, e⟩ := bind_some' e
  cases e
  exact ⟨F, env, s, d, s1, ok, e1, fun v F1 H1 g1 ok1 r1 => c _ H1 F1 g1.ff (ok1.set i r1)⟩
theorem w_setO {i : Nat} {m : EM (List D)} : ∀ E σ H, rdS X.K h F0 H0 X.mg W (mSetO i m) E σ H → tAsg (rdL X.K h F0 H0 m) (gName i) E σ H := fun E σ H q => by
  obtain ⟨F, env, s, o, ok, e, c⟩ := q
  obtain ⟨⟨d, s1⟩, e1, e⟩ := bind_some' e
  cases e
  exact ⟨F, env, s, d, s1, ok, e1, fun p vs F1 H1 np nf ep r1 g1 ok1 => c _ H1 F1 g1.ff (ok1.setO ok i np nf ep r1)⟩
theorem s_set {i : Nat} {x : Str} {e : Expr} {pos pos' : Pos} {m : EM D} (hN : X.N.Nodup) (hi : X.N[i]? = some x) (hx : Loc X.env.scope x) (k : PE X e (rdE X.K h F0 H0 m)) (hs : swapsWith e (some (.Name x pos')) pos.line X.env = pure false := by rfl) (hf : X.fn x = true ∨ X.env.scope.names.lookup x = some .local := by first | exact .inl rfl | exact .inr rfl | assumption) :
    PS X (.Assign [.Name x pos'] e pos) (rdS X.K h F0 H0 X.mg W (mSet i m)) := ps_w (ps_set hN hi hx k hs hf) w_set
theorem s_setO {i : Nat} {x : Str} {e : Expr} {pos pos' : Pos} {m : EM (List D)} (hN : X.N.Nodup) (hi : X.N[i]? = some x) (hx : Loc X.env.scope x) (k : PE X e (rdL X.K h F0 H0 m)) (hs : swapsWith e (some (.Name x pos')) pos.line X.env = pure false := by rfl) (hf : X.fn x = true ∨ X.env.scope.names.lookup x = some .local := by first | exact .inl rfl | exact .inr rfl | assumption) :
    PS X (.Assign [.Name x pos'] e pos) (rdS X.K h F0 H0 X.mg W (mSetO i m)) := ps_w (ps_set hN hi hx k hs hf) w_setO
/-- x = [..] of a local name, known | owned -/
theorem tAsg_known {i : Nat} {t : TE} {m : EM (List D)} (w : ∀ σ H Q, rdL X.K h F0 H0 m σ H Q → t σ H Q) : ∀ E σ H, rdS X.K h F0 H0 X.mg W (mSet i (mF m)) E σ H → tAsg t (gName i) E σ H := fun E σ H q => by
  obtain ⟨F, env, s, o, ok, e, c⟩ := q
  obtain ⟨⟨d, s1⟩, e1, e⟩ := bind_some' e
  obtain ⟨⟨ds, s2⟩, e2, e1⟩ := bind_some' e1
  cases e
  cases e1
  refine w σ H _ ⟨F, env, s, ds, _, ok, e2, fun p vs F1 H1 np nf ep r g ok1 => ?_⟩
  have no : ∀ (i : Nat) (ds : List D), env[i]? = some (.ow ds) → σ[i]? ≠ some (some (.ref p)) := ok.noow np
  exact c _ H1 _ (g.ff.trans (same_new nf)) ((ok1.know (ok.no0 np) nf ep (ok.nohd np) no).set i (.lst upd_same (r.up (same_new nf))))
theorem tAsg_own {i : Nat} {t : TE} {m : EM (List D)} (w : ∀ σ H Q, rdL X.K h F0 H0 m σ H Q → t σ H Q) : ∀ E σ H, rdS X.K h F0 H0 X.mg W (mSetO i m) E σ H → tAsg t (gName i) E σ H := fun E σ H q => w σ H _ (w_setO E σ H q)
section
variable {i : Nat} {y : Str} {py : Pos} {elt tg iter : Expr} {ifs : List Expr} {scope : Scope} {own : List (Str × Nat)} {pos spos : Pos} {mi : EM (List D)} {ts : List Nat} {g : GM} {t : EM Bool} {e : EM D}
def tYesD : EM Bool := fun _ s => some (true, s)
theorem d_yes : PTs X [] (rdT X.K h F0 H0 tYesD) := ⟨fun pins s σ H Q I q => pts_nil.run pins s σ H Q I (by
  obtain ⟨F, env, s, b, s', ok, e, c⟩ := q
  cases e
  exact c F H (.refl ok.fh) ok)⟩
theorem d_lc (hc : X.calm = true) (hN : X.N.Nodup) (ki : PI X tg iter (rdI X.K h F0 H0 mi)) (ok : BlkOk X.N X.env.scope scope own)
    (kg : ∀ (s : Shared) (H : Hp) (C : Addr) (cl : List (Str × Addr)) (fp : List Addr), PG (X.blk s H scope (compEnvC scope cl C X.env) fp) tg (rdG X.K h F0 H0 ts g)) (kt : ∀ (s : Shared) (H : Hp) (C : Addr) (cl : List (Str × Addr)) (fp : List Addr), PTs (X.blk s H scope (compEnvC scope cl C X.env) fp) ifs (rdT X.K h F0 H0 t))
    (ke : ∀ (s : Shared) (H : Hp) (C : Addr) (cl : List (Str × Addr)) (fp : List Addr), PE (X.blk s H scope (compEnvC scope cl C X.env) fp) elt (rdE X.K h F0 H0 e)) (hts : ∀ j ∈ ts, j ∈ own.map (·.2)) (hs : ∀ x, foldedSetIterable iter X.env x = pure x := by intro _; rfl) :
    PE X (.ListComp elt [⟨tg, iter, ifs, 0⟩] scope pos) (rdL X.K h F0 H0 (mLc mi (own.map (·.2)) g t e)) := pe_w (pe_lc hc hN ki ok kg kt ke hs) (w_lc hts)
theorem s_setLc (hc : X.calm = true) (hN : X.N.Nodup) (hy : X.N[i]? = some y) (hyl : X.env.scope.names.lookup y = some .local) (hsw : swapsWith (.ListComp elt [⟨tg, iter, ifs, 0⟩] scope pos) (some (.Name y py)) spos.line X.env = pure true) (ki : PI X tg iter (rdI X.K h F0 H0 mi)) (ok : BlkOk X.N X.env.scope scope own)
    (kg : ∀ (s : Shared) (H : Hp) (C : Addr) (cl : List (Str × Addr)) (fp : List Addr), PG (X.blk s H scope (compEnvC scope cl C X.env) fp) tg (rdG X.K h F0 H0 ts g)) (kt : ∀ (s : Shared) (H : Hp) (C : Addr) (cl : List (Str × Addr)) (fp : List Addr), PTs (X.blk s H scope (compEnvC scope cl C X.env) fp) ifs (rdT X.K h F0 H0 t))
    (ke : ∀ (s : Shared) (H : Hp) (C : Addr) (cl : List (Str × Addr)) (fp : List Addr), PE (X.blk s H scope (compEnvC scope cl C X.env) fp) elt (rdE X.K h F0 H0 e)) (hts : ∀ j ∈ ts, j ∈ own.map (·.2)) (hs : ∀ x, foldedSetIterable iter X.env x = pure x := by intro _; rfl) :
    PS X (.Assign [.Name y py] (.ListComp elt [⟨tg, iter, ifs, 0⟩] scope pos) spos) (rdS X.K h F0 H0 X.mg W (mSet i (mF (mLc mi (own.map (·.2)) g t e)))) := ps_w (ps_setLc hc hN hy hyl hsw ki ok kg kt ke hs) (tAsg_known (w_lc hts))
theorem s_setLcO (hc : X.calm = true) (hN : X.N.Nodup) (hy : X.N[i]? = some y) (hyl : X.env.scope.names.lookup y = some .local) (hsw : swapsWith (.ListComp elt [⟨tg, iter, ifs, 0⟩] scope pos) (some (.Name y py)) spos.line X.env = pure true) (ki : PI X tg iter (rdI X.K h F0 H0 mi)) (ok : BlkOk X.N X.env.scope scope own)
    (kg : ∀ (s : Shared) (H : Hp) (C : Addr) (cl : List (Str × Addr)) (fp : List Addr), PG (X.blk s H scope (compEnvC scope cl C X.env) fp) tg (rdG X.K h F0 H0 ts g)) (kt : ∀ (s : Shared) (H : Hp) (C : Addr) (cl : List (Str × Addr)) (fp : List Addr), PTs (X.blk s H scope (compEnvC scope cl C X.env) fp) ifs (rdT X.K h F0 H0 t))
    (ke : ∀ (s : Shared) (H : Hp) (C : Addr) (cl : List (Str × Addr)) (fp : List Addr), PE (X.blk s H scope (compEnvC scope cl C X.env) fp) elt (rdE X.K h F0 H0 e)) (hts : ∀ j ∈ ts, j ∈ own.map (·.2)) (hs : ∀ x, foldedSetIterable iter X.env x = pure x := by intro _; rfl) :
    PS X (.Assign [.Name y py] (.ListComp elt [⟨tg, iter, ifs, 0⟩] scope pos) spos) (rdS X.K h F0 H0 X.mg W (mSetO i (mLc mi (own.map (·.2)) g t e))) := ps_w (ps_setLc hc hN hy hyl hsw ki ok kg kt ke hs) (tAsg_own (w_lc hts))
end
/-! ### target = e, target a tuple -/
def mAsg (m : EM D) (g : GM) : SM := fun env s => (m env s).bind fun p => (g p.1 env).bind fun env1 => some (.nx env1 p.2)
theorem s_asg {tg e : Expr} {pos : Pos} {m : EM D} {ts : List Nat} {g : GM} (k : PE X e (rdE X.K h F0 H0 m)) (kg : PG X tg (rdG X.K h F0 H0 ts g)) (hs : swapsWithSole [tg] e pos.line X.env = pure false := by rfl) (hw : swappedStores [tg] e X.env = pure none := by rfl)
    (h1 : (assignEach [tg] X.env).map (·.2) = [assign tg X.env] := by rfl) : PS X (.Assign [tg] e pos) (rdS X.K h F0 H0 X.mg W (mAsg m g)) := ps_w (ps_asg k kg hs hw h1) fun E σ H q => by
  obtain ⟨F, env, s, o, ok, e, c⟩ := q
  obtain ⟨⟨d, s1⟩, e1, e⟩ := bind_some' e
  obtain ⟨env1, e2, e⟩ := bind_some' e
  cases e
  exact ⟨F, env, s, d, s1, ok, e1, fun v F1 H1 g1 ok1 r1 => ⟨F1, env, s1, d, env1, ok1, r1, e2, fun σ1 ok2 _ => c σ1 H1 F1 g1.ff ok2⟩⟩
/-! ### if -/
def mIte (t : EM Bool) (a b : SM) : SM := fun env s => (t env s).bind fun p => if p.1 = true then a env p.2 else b env p.2
theorem s_if {c : Expr} {as bs : List Stmt} {pos : Pos} {t : EM Bool} {a b : SM} (kc : PT X c (rdT X.K h F0 H0 t)) (ka : PSs X as (rdS X.K h F0 H0 X.mg W a)) (kb : PSs X bs (rdS X.K h F0 H0 X.mg W b)) : PS X (.If c as bs pos) (rdS X.K h F0 H0 X.mg W (mIte t a b)) :=
  ps_w (ps_if kc ka kb) fun E σ H q => by
    obtain ⟨F, env, s, o, ok, e, c⟩ := q
    obtain ⟨⟨b1, s1⟩, e1, e⟩ := bind_some' e
    refine ⟨F, env, s, b1, s1, ok, e1, fun F1 H1 g1 ok1 => ?_⟩
    cases b1 with
    | true =>
      simp only [if_true] at e ⊢
      exact ⟨F1, env, s1, o, ok1, e, c.up g1.ff⟩
    | false =>
      simp only [Bool.false_eq_true, if_false] at e ⊢
      exact ⟨F1, env, s1, o, ok1, e, c.up g1.ff⟩
/-! ### for -/
def forL (g : GM) (b : SM) : List D → SM
  | [], env, s => some (.nx env s)
  | d :: ds, env, s => (g d env).bind fun env1 => (b env1 s).bind fun o => match o with
    | .nx env2 s2 => forL g b ds env2 s2
    | .ct env2 s2 => forL g b ds env2 s2
    | .bk env2 s2 => some (.nx env2 s2)
    | .rt d s2 => some (.rt d s2)
    | .er n d env2 s2 => some (.er n d env2 s2)
def mFor (mi : EM (List D)) (g : GM) (b : SM) : SM := fun env s => (mi env s).bind fun p => forL g b p.1 env p.2
theorem s_for {tg iter : Expr} {body : List Stmt} {pos : Pos} {mi : EM (List D)} {ts : List Nat} {g : GM} {b : SM} (hp : PassesOwn (model X.prog X.w) X.A X.env X.xe) (hc : X.calm = true) (ki : PI X tg iter (rdI X.K h F0 H0 mi)) (kg : PG X tg (rdG X.K h F0 H0 ts g)) (kb : PSs X body (rdS X.K h F0 H0 X.mg W b))
    (hs : ∀ x, foldedSetIterable iter X.env x = pure x := by intro _; rfl) : PS X (.For tg iter body [] pos) (rdS X.K h F0 H0 X.mg W (mFor mi g b)) := ps_w (ps_for hp hc ki kg kb hs) fun E σ H q => by
  obtain ⟨F, env, s, o, ok, e, c⟩ := q
  obtain ⟨⟨its, s1⟩, e1, e⟩ := bind_some' e
  refine ⟨F, env, s, its, s1, ok, e1, fun J F1 H1 g1 ok1 yl => ?_⟩
  refine ⟨fun i m σ' H' => m = its.length - i ∧ i ≤ its.length ∧ ∃ (F' : Hp) (env' : Env) (s2 : S), Same F1 F' ∧ Ok X.K h F0 H0 σ' H' F' env' s2 ∧ forL g b (its.drop i) env' s2 = some o, ⟨its.length, by rw [Nat.sub_zero], Nat.zero_le _, F1, env, s1, Same.refl _, ok1, e⟩, ?_⟩
  rintro i m σ' H' ⟨rfl, hi, F', env', s2, sm, ok2, el⟩
  by_cases hlt : i < its.length
  · have ed : its[i]? = some its[i] := List.getElem?_eq_getElem hlt
    have edr : its.drop i = its[i] :: its.drop (i + 1) := List.drop_eq_getElem_cons hlt
    rw [edr] at el
    obtain ⟨env1, eg, el⟩ := bind_some' el
    obtain ⟨o1, eb, el⟩ := bind_some' el
    obtain ⟨go, yld⟩ := yl.1 i F' H' its[i] sm ok2.fh ed
    have cp := c.up g1.ff
    refine .inr ⟨go, fun σ7 H7 => ∃ (F' : Hp) (env' : Env) (s2 : S), Same F1 F' ∧ Ok X.K h F0 H0 σ7 H7 F' env' s2 ∧ forL g b (its.drop (i + 1)) env' s2 = some o, fun σ7 H7 hN => ⟨its.length - (i + 1), by omega, rfl, hlt, hN⟩, fun x H2 hy => ?_⟩
    obtain ⟨F2, gp, rx⟩ := yld x H2 hy
    have ok3 := ok2.gp gp
    refine ⟨F2, env', s2, its[i], env1, ok3, rx, eg, fun σ2 ok4 off => ⟨F2, env1, s2, o1, ok4, eb, ?_⟩⟩
    have sm2 : Same F1 F2 := sm.trans gp.ff
    cases o1 with
    | nx env2 s3 => exact fun σ5 H5 F5 sm5 ok5 => ⟨F5, env2, s3, sm2.trans sm5, ok5, el⟩
    | ct env2 s3 => exact fun σ5 H5 F5 sm5 ok5 => ⟨F5, env2, s3, sm2.trans sm5, ok5, el⟩
    | bk env2 s3 =>
      cases el
      exact fun σ5 H5 F5 sm5 ok5 => cp σ5 H5 F5 (sm2.trans sm5) ok5
    | rt d s3 =>
      cases el
      exact cp
    | er n d env2 s3 =>
      cases el
      exact cp.up sm2
  · have hie : its.length ≤ i := by omega
    rw [List.drop_eq_nil_of_le hie] at el
    cases el
    exact .inl ⟨yl.2 i F' H' sm ok2.fh hie, c σ' H' F' (g1.ff.trans sm) ok2⟩
end
end DL
set_option Elab.async false
set_option linter.all false
set_option maxRecDepth 100000
set_option maxHeartbeats 4000000
/-! DL, part 5: while, owned lists changed, several targets, defs. -/
namespace DL
open PySem PySem.Spec PyProof.Rows L2
/-! ### while -/
inductive Wh (t : EM Bool) (b : SM) : Nat → Env → S → Ou → Prop
  | stop {env : Env} {s s1 : S} (e : t env s = some (false, s1)) : Wh t b 0 env s (.nx env s1)
  | nx {n : Nat} {env env2 : Env} {s s1 s2 : S} {o : Ou} (e : t env s = some (true, s1)) (e2 : b env s1 = some (.nx env2 s2)) (r : Wh t b n env2 s2 o) : Wh t b (n + 1) env s o
  | ct {n : Nat} {env env2 : Env} {s s1 s2 : S} {o : Ou} (e : t env s = some (true, s1)) (e2 : b env s1 = some (.ct env2 s2)) (r : Wh t b n env2 s2 o) : Wh t b (n + 1) env s o
  | bk {env env2 : Env} {s s1 s2 : S} (e : t env s = some (true, s1)) (e2 : b env s1 = some (.bk env2 s2)) : Wh t b 0 env s (.nx env2 s2)
  | rt {env : Env} {s s1 s2 : S} {d : D} (e : t env s = some (true, s1)) (e2 : b env s1 = some (.rt d s2)) : Wh t b 0 env s (.rt d s2)
  | er {env env2 : Env} {s s1 s2 : S} {n : Str} {d : D} (e : t env s = some (true, s1)) (e2 : b env s1 = some (.er n d env2 s2)) : Wh t b 0 env s (.er n d env2 s2)
theorem Wh.det {t : EM Bool} {b : SM} {n m : Nat} {env : Env} {s : S} {o u : Ou} (k : Wh t b n env s o) (l : Wh t b m env s u) : o = u := by
  induction k generalizing m u with
  | stop e => cases l <;> simp_all
  | nx e e2 r ih => cases l <;> simp_all <;> (first | exact ih (by assumption) | skip)
  | ct e e2 r ih => cases l <;> simp_all <;> (first | exact ih (by assumption) | skip)
  | bk e e2 => cases l <;> simp_all
  | rt e e2 => cases l <;> simp_all
  | er e e2 => cases l <;> simp_all
open Classical in
noncomputable def mWhile (t : EM Bool) (b : SM) : SM := fun env s => if k : ∃ o n, Wh t b n env s o then some (choose k) else none
theorem mWhile_of {t : EM Bool} {b : SM} {n : Nat} {env : Env} {s : S} {o : Ou} (k : Wh t b n env s o) : mWhile t b env s = some o := by
  unfold mWhile
  have q : ∃ o n, Wh t b n env s o := ⟨o, n, k⟩
  rw [dif_pos q]
  obtain ⟨m, l⟩ := Classical.choose_spec q
  rw [l.det k]
theorem mWhile_is {t : EM Bool} {b : SM} {env : Env} {s : S} {o : Ou} (k : mWhile t b env s = some o) : ∃ n, Wh t b n env s o := by
  unfold mWhile at k
  split at k
  · rename_i q
    cases k
    exact Classical.choose_spec q
  · cases k
section
variable {X : Cx} {h : Hd} {F0 H0 : Hp} {W : WX}
theorem s_while {c : Expr} {body : List Stmt} {pos : Pos} {t : EM Bool} {b : SM} (hp : PassesOwn (model X.prog X.w) X.A X.env X.xe) (kc : PT X c (rdT X.K h F0 H0 t)) (kb : PSs X body (rdS X.K h F0 H0 X.mg W b)) : PS X (.While c body [] pos) (rdS X.K h F0 H0 X.mg W (mWhile t b)) :=
  ps_w (ps_while hp kc kb) fun E σ H q => by
    obtain ⟨F, env, s, o, ok, e, c⟩ := q
    obtain ⟨n, wh⟩ := mWhile_is e
    refine ⟨fun m σ' H' => ∃ (F' : Hp) (env' : Env) (s2 : S), Same F F' ∧ Ok X.K h F0 H0 σ' H' F' env' s2 ∧ Wh t b m env' s2 o, ⟨n, F, env, s, Same.refl _, ok, wh⟩, ?_⟩
    rintro m σ' H' ⟨F', env', s2, sm, ok2, wh2⟩
    cases wh2 with
    | stop e1 => exact ⟨F', env', s2, false, _, ok2, e1, fun F1 H1 g1 ok3 => by
        simp only [Bool.false_eq_true, if_false]
        exact c σ' H1 F1 (sm.trans g1.ff) ok3⟩
    | nx e1 e2 r =>
      rename_i n' env2 s3 s4
      exact ⟨F', env', s2, true, _, ok2, e1, fun F1 H1 g1 ok3 => by
        simp only [if_true]
        exact ⟨fun σ5 H5 => ∃ (F' : Hp) (env' : Env) (s2 : S), Same F F' ∧ Ok X.K h F0 H0 σ5 H5 F' env' s2 ∧ Wh t b n' env' s2 o, fun σ5 H5 q => ⟨n', Nat.lt_succ_self _, q⟩,
          F1, env', _, _, ok3, e2, fun σ5 H5 F5 sm5 ok5 => ⟨F5, env2, s4, (sm.trans g1.ff).trans sm5, ok5, r⟩⟩⟩
    | ct e1 e2 r =>
      rename_i n' env2 s3 s4
      exact ⟨F', env', s2, true, _, ok2, e1, fun F1 H1 g1 ok3 => by
        simp only [if_true]
        exact ⟨fun σ5 H5 => ∃ (F' : Hp) (env' : Env) (s2 : S), Same F F' ∧ Ok X.K h F0 H0 σ5 H5 F' env' s2 ∧ Wh t b n' env' s2 o, fun σ5 H5 q => ⟨n', Nat.lt_succ_self _, q⟩,
          F1, env', _, _, ok3, e2, fun σ5 H5 F5 sm5 ok5 => ⟨F5, env2, s4, (sm.trans g1.ff).trans sm5, ok5, r⟩⟩⟩
    | bk e1 e2 => exact ⟨F', env', s2, true, _, ok2, e1, fun F1 H1 g1 ok3 => by
        simp only [if_true]
        exact ⟨fun _ _ => False, fun _ _ z => z.elim, F1, env', _, _, ok3, e2, fun σ5 H5 F5 sm5 ok5 => c σ5 H5 F5 ((sm.trans g1.ff).trans sm5) ok5⟩⟩
    | rt e1 e2 => exact ⟨F', env', s2, true, _, ok2, e1, fun F1 H1 g1 ok3 => by
        simp only [if_true]
        exact ⟨fun _ _ => False, fun _ _ z => z.elim, F1, env', _, _, ok3, e2, c⟩⟩
    | er e1 e2 => exact ⟨F', env', s2, true, _, ok2, e1, fun F1 H1 g1 ok3 => by
        simp only [if_true]
        exact ⟨fun _ _ => False, fun _ _ z => z.elim, F1, env', _, _, ok3, e2, c.up (sm.trans g1.ff)⟩⟩

/-! ### an owned list becomes known ahead of a statement -/
def mFrz (i : Nat) (m : SM) : SM := fun env s => match env[i]? with
  | some (.ow ds) => m (env.set i (.im (.list ds))) s
  | some (.im _) => m env s
  | _ => none
theorem w_frz {i : Nat} {m : SM} : ∀ E σ H, rdS X.K h F0 H0 X.mg W (mFrz i m) E σ H → rdS X.K h F0 H0 X.mg W m E σ H := fun E σ H q => by
  obtain ⟨F, env, s, o, ok, e, c⟩ := q
  unfold mFrz at e
  split at e
  · rename_i ds hi
    obtain ⟨F1, sm, ok1⟩ := ok.freeze hi
    exact ⟨F1, _, s, o, ok1, e, c.up sm⟩
  · exact ⟨F, env, s, o, ok, e, c⟩
  · cases e
theorem s_frz {i : Nat} {st : Stmt} {m : SM} (k : PS X st (rdS X.K h F0 H0 X.mg W m)) : PS X st (rdS X.K h F0 H0 X.mg W (mFrz i m)) := ps_w k w_frz

/-! ### expressions that change an owned list: x.pop(..) -/
abbrev EX := Env → S → Option (D × Env × S)
def rdX (K : PySem.W.Frag) (h : Hd) (F0 H0 : Hp) (m : EX) : TE := fun σ H Q => ∃ F env s d env' s', Ok K h F0 H0 σ H F env s ∧ m env s = some (d, env', s') ∧
  ∀ v F' H', Same F F' → Ok K h F0 H0 σ H' F' env' s' → Rep K h F' v d → Q v H'
def xPop (i : Nat) : EX := fun env s => match env[i]? with
  | some (.ow ds) => (ds[ds.length - 1]?).bind fun d => some (d, env.set i (.ow ds.dropLast), s)
  | _ => none
def xPopAt (i : Nat) (m : EM D) : EX := fun env s => (m env s).bind fun p => match env[i]?, p.1 with
  | some (.ow ds), .int j => if ds.length ≤ 1000000 then (ixN ds.length j).bind fun k => (ds[k]?).bind fun d => some (d, env.set i (.ow (ds.eraseIdx k)), p.2) else none
  | _, _ => none
theorem x_pop {i : Nat} {o : Expr} {apos cpos : Pos} (ko : PE X o (tVar i)) (hbase : attributeBase o "pop" X.env (eval o X.env) = eval o X.env := by rfl) (hline : (apos.endLine == cpos.line) = true := by rfl) :
    PE X (.Call (.Attribute o "pop" apos) [] [] cpos) (rdX X.K h F0 H0 (xPop i)) := pe_w (pe_bm0 PySem.F.plainAttrs_list PySem.F.slot_list_pop PySem.F.type_list_pop mt_pop ko hbase hline) fun σ H Q q => by
  obtain ⟨F, env, s, d, env', s', ok, e, c⟩ := q
  unfold xPop at e
  split at e
  · rename_i ds hi
    obtain ⟨d1, ed, e⟩ := bind_some' e
    cases e
    obtain ⟨u, e3, p, vs, rfl, nf, nh, hp, r⟩ := ok.sl i _ hi
    obtain ⟨v, ev, rv⟩ := r.get ed
    refine ⟨_, e3, .inl ⟨rfl, _, .of hp⟩, p, vs, v, rfl, rfl, hp, by rw [r.len]; exact ev, ?_⟩
    exact c v F _ (Same.refl _) (ok.chg hi e3 r.dropLast) rv
  · cases e
theorem x_popAt {i : Nat} {o e : Expr} {apos cpos : Pos} {m : EM D} (ko : PE X o (tVar i)) (k : PE X e (rdE X.K h F0 H0 m)) (hbase : attributeBase o "pop" X.env (eval o X.env) = eval o X.env := by rfl)
    (hfew : ((backTo cpos (starEach [e] X.env)).all (fun x => !x.1) && (backToKw cpos (keywordEach [] X.env)).all (fun x => x.1.isSome)
      && decide ([e].length + ([] : List Keyword).length + (if ([] : List Keyword).isEmpty then 0 else 1) < 30)) = true := by rfl)
    (hline : (apos.endLine == cpos.line) = true := by rfl) (hs : starEach [e] X.env = (false, eval e X.env) :: starEach [] X.env := by rfl) (hplain : (backTo cpos (starEach [] X.env)).any (·.1) = false := by rfl) :
    PE X (.Call (.Attribute o "pop" apos) [e] [] cpos) (rdX X.K h F0 H0 (xPopAt i m)) := pe_w (pe_bm PySem.F.plainAttrs_list PySem.F.slot_list_pop PySem.F.type_list_pop mt_popAt ko (pa_cons k pa_nil hs) hbase hfew hline hs hplain) fun σ H Q q => by
  obtain ⟨F, env, s, d, env', s', ok, e, c⟩ := q
  obtain ⟨⟨d1, s1⟩, e1, e⟩ := bind_some' e
  dsimp only at e
  split at e
  · rename_i ds j hi
    split at e
    · rename_i hl
      obtain ⟨kk, ek, e⟩ := bind_some' e
      obtain ⟨d2, ed, e⟩ := bind_some' e
      cases e
      obtain ⟨u, e3, p, vs, rfl, nf, nh, hp, r⟩ := ok.sl i _ hi
      refine ⟨_, e3, .inl ⟨rfl, _, .of hp⟩, F, env, s, _, _, ok, e1, fun v F1 H1 g1 ok1 r1 => ?_⟩
      cases r1
      obtain ⟨u', e4, p', vs', e5, nf', nh', hp', r'⟩ := ok1.sl i _ hi
      rw [e3] at e4
      have e6 := Option.some.inj e4
      rw [e5] at e6
      cases e6
      obtain ⟨v2, ev, rv⟩ := r'.get ed
      obtain ⟨z1, z2, z3, z4⟩ := ixN_seq ek
      have b63 : (1000000 : Int) < 2 ^ 63 := by decide
      refine ⟨p, vs', j, kk, v2, rfl, rfl, hp', by omega, by omega, by rw [r'.len]; exact z1, ev, ?_⟩
      exact c v2 F1 _ g1.ff (ok1.chg hi e3 (r'.eraseIdx kk)) rv
    · cases e
  · cases e
def mSetX (i : Nat) (m : EX) : SM := fun env s => (m env s).bind fun p => some (.nx (p.2.1.set i (.im p.1)) p.2.2)
def mDropX (m : EX) : SM := fun env s => (m env s).bind fun p => some (.nx p.2.1 p.2.2)
def mRetX (m : EX) : SM := fun env s => (m env s).bind fun p => some (.rt p.1 p.2.2)
theorem s_setX {i : Nat} {x : Str} {e : Expr} {pos pos' : Pos} {m : EX} (hN : X.N.Nodup) (hi : X.N[i]? = some x) (hx : Loc X.env.scope x) (k : PE X e (rdX X.K h F0 H0 m)) (hs : swapsWith e (some (.Name x pos')) pos.line X.env = pure false := by rfl) (hf : X.fn x = true ∨ X.env.scope.names.lookup x = some .local := by first | exact .inl rfl | exact .inr rfl | assumption) :
    PS X (.Assign [.Name x pos'] e pos) (rdS X.K h F0 H0 X.mg W (mSetX i m)) := ps_w (ps_set hN hi hx k hs hf) fun E σ H q => by
  obtain ⟨F, env, s, o, ok, e, c⟩ := q
  obtain ⟨⟨d, env1, s1⟩, e1, e⟩ := bind_some' e
  cases e
  exact ⟨F, env, s, d, env1, s1, ok, e1, fun v F1 H1 sm ok1 r1 => c _ H1 F1 sm (ok1.set i r1)⟩
theorem s_dropX {e : Expr} {pos : Pos} {m : EX} (k : PE X e (rdX X.K h F0 H0 m)) (hs : swapsWith e none pos.line X.env = pure false := by rfl) : PS X (.Expr e pos) (rdS X.K h F0 H0 X.mg W (mDropX m)) := ps_w (ps_expr k hs) fun E σ H q => by
  obtain ⟨F, env, s, o, ok, e, c⟩ := q
  obtain ⟨⟨d, env1, s1⟩, e1, e⟩ := bind_some' e
  cases e
  exact ⟨F, env, s, d, env1, s1, ok, e1, fun v F1 H1 sm ok1 r1 => c _ H1 F1 sm ok1⟩
theorem s_retX {e : Expr} {pos : Pos} {m : EX} (k : PE X e (rdX X.K h F0 H0 m)) : PS X (.Return (some e) pos) (rdS X.K h F0 H0 X.mg W (mRetX m)) := ps_w (ps_ret k) fun E σ H q => by
  obtain ⟨F, env, s, o, ok, e, c⟩ := q
  obtain ⟨⟨d, env1, s1⟩, e1, e⟩ := bind_some' e
  cases e
  exact ⟨F, env, s, d, env1, s1, ok, e1, fun v F1 H1 sm ok1 r1 => c _ H1 F1 ok1.gr ok1.hd r1⟩

/-! ### x.append(e), x.extend(e), x[i] = e -/
def isOw (env : Env) (i : Nat) : Bool := match env[i]? with
  | some (.ow _) => true
  | _ => false
theorem isOw_at {K : PySem.W.Frag} {h : Hd} {F0 H0 F H : Hp} {σ : L2.St} {env : Env} {s : S} (k : Ok K h F0 H0 σ H F env s) {i : Nat} (e : isOw env i = true) : ∃ p vs, σ[i]? = some (some (.ref p)) ∧ H p = some (.lst vs) := by
  unfold isOw at e
  split at e
  · rename_i ds hi
    obtain ⟨u, e3, p, vs, rfl, nf, nh, hp, r⟩ := k.sl i _ hi
    exact ⟨p, vs, e3, hp⟩
  · cases e
def mAppX (i : Nat) (m : EX) : SM := fun env s => if isOw env i = true then (m env s).bind fun p => (match p.2.1[i]? with
  | some (.ow ds) => if ds.length ≤ 1000000 then some (.nx (p.2.1.set i (.ow (ds ++ [p.1]))) p.2.2) else none
  | _ => none) else none
def ex (m : EM D) : EX := fun env s => (m env s).bind fun p => some (p.1, env, p.2)
theorem x_of {e : Expr} {m : EM D} (k : PE X e (rdE X.K h F0 H0 m)) : PE X e (rdX X.K h F0 H0 (ex m)) := pe_w k fun σ H Q q => by
  obtain ⟨F, env, s, d, env', s', ok, e, c⟩ := q
  obtain ⟨⟨d1, s1⟩, e1, e⟩ := bind_some' e
  cases e
  exact ⟨F, env, s, _, _, ok, e1, fun v F1 H1 g1 ok1 r1 => c v F1 H1 g1.ff ok1 r1⟩
abbrev mApp (i : Nat) (m : EM D) : SM := mAppX i (ex m)
theorem s_app {i : Nat} {o e : Expr} {apos cpos pos : Pos} {m : EX} (ko : PE X o (tVar i)) (k : PE X e (rdX X.K h F0 H0 m)) (hs0 : swapsWith (.Call (.Attribute o "append" apos) [e] [] cpos) none pos.line X.env = pure false := by rfl) (hbase : attributeBase o "append" X.env (eval o X.env) = eval o X.env := by rfl)
    (hfew : ((backTo cpos (starEach [e] X.env)).all (fun x => !x.1) && (backToKw cpos (keywordEach [] X.env)).all (fun x => x.1.isSome)
      && decide ([e].length + ([] : List Keyword).length + (if ([] : List Keyword).isEmpty then 0 else 1) < 30)) = true := by rfl)
    (hline : (apos.endLine == cpos.line) = true := by rfl) (hs : starEach [e] X.env = (false, eval e X.env) :: starEach [] X.env := by rfl) (hplain : (backTo cpos (starEach [] X.env)).any (·.1) = false := by rfl) :
    PS X (.Expr (.Call (.Attribute o "append" apos) [e] [] cpos) pos) (rdS X.K h F0 H0 X.mg W (mAppX i m)) := ps_w (ps_expr (pe_bm PySem.F.plainAttrs_list PySem.F.slot_list_append PySem.F.type_list_append mt_append ko (pa_cons k pa_nil hs) hbase hfew hline hs hplain) hs0) fun E σ H q => by
  obtain ⟨F, env, s, o, ok, e, c⟩ := q
  unfold mAppX at e
  split at e
  case isFalse => cases e
  rename_i hw
  obtain ⟨p, vs, ep, hp⟩ := isOw_at ok hw
  obtain ⟨⟨d1, env1, s1⟩, e1, e⟩ := bind_some' e
  dsimp only at e
  split at e
  · rename_i ds hi
    split at e
    · rename_i hl
      cases e
      refine ⟨_, ep, .inl ⟨rfl, _, .of hp⟩, F, env, s, d1, env1, s1, ok, e1, fun v F1 H1 sm ok1 r1 => ?_⟩
      obtain ⟨u', e4, p', vs', e5, nf', nh', hp', r'⟩ := ok1.sl i _ hi
      rw [ep] at e4
      have e6 := Option.some.inj e4
      rw [e5] at e6
      cases e6
      refine ⟨p, vs', v, rfl, rfl, hp', by rw [r'.len]; exact Nat.lt_of_le_of_lt hl (by decide), ?_⟩
      exact c σ _ F1 sm (ok1.chg hi ep (r'.append (.one r1)))
    · cases e
  · cases e
def mExt (i : Nat) (m : EM D) : SM := fun env s => if isOw env i = true then (m env s).bind fun p => (match env[i]?, p.1 with
  | some (.ow ds), .list es => if ds.length + es.length ≤ 1000000 then some (.nx (env.set i (.ow (ds ++ es))) p.2) else none
  | _, _ => none) else none
theorem s_ext {i : Nat} {o e : Expr} {apos cpos pos : Pos} {m : EM D} (ko : PE X o (tVar i)) (k : PE X e (rdE X.K h F0 H0 m)) (hs0 : swapsWith (.Call (.Attribute o "extend" apos) [e] [] cpos) none pos.line X.env = pure false := by rfl) (hbase : attributeBase o "extend" X.env (eval o X.env) = eval o X.env := by rfl)
    (hfew : ((backTo cpos (starEach [e] X.env)).all (fun x => !x.1) && (backToKw cpos (keywordEach [] X.env)).all (fun x => x.1.isSome)
      && decide ([e].length + ([] : List Keyword).length + (if ([] : List Keyword).isEmpty then 0 else 1) < 30)) = true := by rfl)
    (hline : (apos.endLine == cpos.line) = true := by rfl) (hs : starEach [e] X.env = (false, eval e X.env) :: starEach [] X.env := by rfl) (hplain : (backTo cpos (starEach [] X.env)).any (·.1) = false := by rfl) :
    PS X (.Expr (.Call (.Attribute o "extend" apos) [e] [] cpos) pos) (rdS X.K h F0 H0 X.mg W (mExt i m)) := ps_w (ps_expr (pe_bm PySem.F.plainAttrs_list PySem.F.slot_list_extend PySem.F.type_list_extend mt_extend ko (pa_cons k pa_nil hs) hbase hfew hline hs hplain) hs0) fun E σ H q => by
  obtain ⟨F, env, s, o, ok, e, c⟩ := q
  unfold mExt at e
  split at e
  case isFalse => cases e
  rename_i hw
  obtain ⟨p, vs, ep, hp⟩ := isOw_at ok hw
  obtain ⟨⟨d1, s1⟩, e1, e⟩ := bind_some' e
  dsimp only at e
  split at e
  · rename_i ds es hi
    split at e
    · rename_i hl
      cases e
      refine ⟨_, ep, .inl ⟨rfl, _, .of hp⟩, F, env, s, _, s1, ok, e1, fun v F1 H1 g1 ok1 r1 => ?_⟩
      obtain ⟨u', e4, p', vs', e5, nf', nh', hp', r'⟩ := ok1.sl i _ hi
      rw [ep] at e4
      have e6 := Option.some.inj e4
      rw [e5] at e6
      cases e6
      cases r1 with
      | @lst a xs _ ha rl =>
        refine ⟨p, a, vs', xs, rfl, rfl, hp', ok1.fh _ _ ha, by rw [r'.len, rl.len]; exact Nat.le_trans hl (by decide), ?_⟩
        exact c σ _ F1 g1.ff (ok1.chg hi ep (r'.append rl))
    · cases e
  · cases e
def mPutAt (i : Nat) (mi m : EM D) : SM := fun env s => if isOw env i = true then (m env s).bind fun p => (mi env p.2).bind fun q => (match env[i]?, q.1 with
  | some (.ow ds), .int j => (ixN ds.length j).bind fun k => some (.nx (env.set i (.ow (ds.set k p.1))) q.2)
  | _, _ => none) else none
theorem s_putAt {i : Nat} {o ix e : Expr} {tpos pos : Pos} {mi m : EM D} (ko : PE X o (tVar i)) (ki : PE X ix (rdE X.K h F0 H0 mi)) (k : PE X e (rdE X.K h F0 H0 m))
    (ha : ∀ v, assign (.Subscript o ix tpos) X.env v = (do
      let ov ← holding [v] (eval o X.env)
      let iv ← holding [v, ov] (eval ix X.env)
      standAt tpos
      holding [v, ov, iv] (setItem ov iv v)
      release [v, ov, iv] []) := by intro _; rfl)
    (hs : swapsWithSole [.Subscript o ix tpos] e pos.line X.env = pure false := by rfl) (hw : swappedStores [.Subscript o ix tpos] e X.env = pure none := by rfl)
    (h1 : (assignEach [.Subscript o ix tpos] X.env).map (·.2) = [assign (.Subscript o ix tpos) X.env] := by rfl) : PS X (.Assign [.Subscript o ix tpos] e pos) (rdS X.K h F0 H0 X.mg W (mPutAt i mi m)) :=
  ps_w (ps_asg k (pg_sub ko ki set_list ha) hs hw h1) fun E σ H q => by
    obtain ⟨F, env, s, o, ok, e, c⟩ := q
    unfold mPutAt at e
    split at e
    case isFalse => cases e
    rename_i hw
    obtain ⟨p, vs, ep, hp⟩ := isOw_at ok hw
    obtain ⟨⟨d1, s1⟩, e1, e⟩ := bind_some' e
    obtain ⟨⟨d2, s2⟩, e2, e⟩ := bind_some' e
    dsimp only at e
    split at e
    · rename_i ds j hi
      obtain ⟨kk, ek, e⟩ := bind_some' e
      cases e
      refine ⟨F, env, s, d1, s1, ok, e1, fun v F1 H1 g1 ok1 r1 => ⟨_, ep, F1, env, s1, _, _, ok1, e2, fun w F2 H2 g2 ok2 r2 => ?_⟩⟩
      cases r2
      obtain ⟨u', e4, p', vs', e5, nf', nh', hp', r'⟩ := ok2.sl i _ hi
      rw [ep] at e4
      have e6 := Option.some.inj e4
      rw [e5] at e6
      cases e6
      refine ⟨p, vs', j, kk, rfl, rfl, hp', by rw [r'.len]; exact ek, ?_⟩
      exact c σ _ F2 (g1.ff.trans g2.ff) (ok2.chg hi ep (RepL.set (r1.up g2.ff) kk r'))
    · cases e

/-! ### x op= e -/
def IpD (K : PySem.W.Frag) (r : TIp) (f : D → D → Option D) : Prop := OpD K r f
def mAug (i : Nat) (f : D → D → Option D) (m : EM D) : SM := fun env s => match env[i]? with
  | some (.im d) => (m env s).bind fun p => (f d p.1).bind fun g => some (.nx (env.set i (.im g)) p.2)
  | _ => none
theorem s_aug {i : Nat} {x : Str} {e : Expr} {op : Operator} {ti : TIp} {f : D → D → Option D} {pos pos' : Pos} {m : EM D} (hr : OpD X.K ti f) (hN : X.N.Nodup) (hi : X.N[i]? = some x) (hx : Loc X.env.scope x) (k : PE X e (rdE X.K h F0 H0 m)) (ho : PIp X op ti) (hf : X.fn x = true ∨ X.env.scope.names.lookup x = some .local := by first | exact .inl rfl | exact .inr rfl | assumption) :
    PS X (.AugAssign (.Name x pos') op e pos) (rdS X.K h F0 H0 X.mg W (mAug i f m)) := ps_w (ps_aug hN hi hx k ho hf) fun E σ H q => by
  obtain ⟨F, env, s, o, ok, e, c⟩ := q
  unfold mAug at e
  split at e
  · rename_i d hi'
    obtain ⟨⟨d1, s1⟩, e1, e⟩ := bind_some' e
    obtain ⟨g, e2, e⟩ := bind_some' e
    cases e
    obtain ⟨u, e3, v, rfl, r⟩ := ok.sl i _ hi'
    refine ⟨v, e3, F, env, s, d1, _, ok, e1, fun w F1 H1 g1 ok1 r1 => ?_⟩
    exact hr h F1 H1 v w d d1 g _ ok1.fh (r.up g1.ff) r1 e2 fun u F2 H2 g2 r2 => c _ H2 F2 (g1.ff.trans g2.ff) ((ok1.gp g2).set i r2)
  · cases e

/-! ### a, b = e1, e2 -/
/-- values for slots: known ones, new lists -/
def rdM (K : PySem.W.Frag) (h : Hd) (F0 H0 : Hp) (m : EM (List Sl)) : TA := fun σ H Q => ∃ F env s xs s', Ok K h F0 H0 σ H F env s ∧ m env s = some (xs, s') ∧
  ∀ vs F' H', Same F F' → Ok K h F0 H0 σ H' F' env s' → Same F F' → vs.length = xs.length → (∀ (j : Nat) (x : Sl), xs[j]? = some x → ∃ v, vs[j]? = some v ∧ SlOk K h F' H' (some v) x) →
    (∀ (j : Nat) (ds : List D) (p : Addr), xs[j]? = some (.ow ds) → vs[j]? = some (.ref p) → H p = none) → (∀ (i j : Nat) (ds es : List D) (p : Addr), i ≠ j → xs[i]? = some (.ow ds) → xs[j]? = some (.ow es) → vs[i]? = some (.ref p) → vs[j]? = some (.ref p) → False) →
    Gr h F H F' H' → Q vs H'
def mmNil : EM (List Sl) := fun _ s => some ([], s)
def mmE (m : EM D) (ms : EM (List Sl)) : EM (List Sl) := fun env s => (m env s).bind fun p => (ms env p.2).bind fun q => some (.im p.1 :: q.1, q.2)
def mmL (m : EM (List D)) (ms : EM (List Sl)) : EM (List Sl) := fun env s => (m env s).bind fun p => (ms env p.2).bind fun q => some (.ow p.1 :: q.1, q.2)
theorem mm_nil : PA X [] (rdM X.K h F0 H0 mmNil) := pa_w pa_nil fun σ H Q q => by
  obtain ⟨F, env, s, d, s', ok, e, c⟩ := q
  cases e
  exact c [] F H (Same.refl _) ok (Same.refl _) rfl (fun j x e => by simp at e) (fun j ds p e => by simp at e) (fun i j ds es p _ e => by simp at e) (.refl ok.fh)
theorem mm_e {e : Expr} {es : List Expr} {m : EM D} {ms : EM (List Sl)} (k : PE X e (rdE X.K h F0 H0 m)) (ks : PA X es (rdM X.K h F0 H0 ms))
    (hs : starEach (e :: es) X.env = (false, eval e X.env) :: starEach es X.env := by rfl) : PA X (e :: es) (rdM X.K h F0 H0 (mmE m ms)) := pa_w (pa_cons k ks hs) fun σ H Q q => by
  obtain ⟨F, env, s, d, s', ok, e, c⟩ := q
  obtain ⟨⟨d1, s1⟩, e1, e⟩ := bind_some' e
  obtain ⟨⟨xs, s2⟩, e2, e⟩ := bind_some' e
  cases e
  refine ⟨F, env, s, d1, s1, ok, e1, fun v F1 H1 g1 ok1 r1 => ⟨F1, env, s1, xs, s2, ok1, e2, fun vs F2 H2 sm2 ok2 _ hl hx hn hd g2 => ?_⟩⟩
  have back : ∀ p : Addr, H1 p = none → H p = none := fun p n => by
    cases q : H p with
    | none => rfl
    | some o => exact absurd n (g1.st p (by rw [q]; exact fun z => nomatch z))
  refine c _ F2 H2 (g1.ff.trans sm2) ok2 (g1.ff.trans sm2) (by simp [hl]) (fun j x e => ?_) (fun j ds p e e' => ?_) (fun i j ds es p hij e e' q q' => ?_) (g1.trans g2)
  · cases j with
    | zero =>
      cases e
      exact ⟨v, rfl, v, rfl, r1.up sm2⟩
    | succ j => exact hx j x e
  · cases j with
    | zero => cases e
    | succ j => exact back p (hn j ds p e e')
  · cases i with
    | zero => cases e
    | succ i =>
      cases j with
      | zero => cases e'
      | succ j => exact hd i j ds es p (fun z => hij (by rw [z])) e e' q q'
theorem mm_l {e : Expr} {es : List Expr} {m : EM (List D)} {ms : EM (List Sl)} (k : PE X e (rdL X.K h F0 H0 m)) (ks : PA X es (rdM X.K h F0 H0 ms))
    (hs : starEach (e :: es) X.env = (false, eval e X.env) :: starEach es X.env := by rfl) : PA X (e :: es) (rdM X.K h F0 H0 (mmL m ms)) := pa_w (pa_cons k ks hs) fun σ H Q q => by
  obtain ⟨F, env, s, d, s', ok, e, c⟩ := q
  obtain ⟨⟨d1, s1⟩, e1, e⟩ := bind_some' e
  obtain ⟨⟨xs, s2⟩, e2, e⟩ := bind_some' e
  cases e
  refine ⟨F, env, s, d1, s1, ok, e1, fun p1 ws F1 H1 np nf ep r1 g1 ok1 => ⟨F1, env, s1, xs, s2, ok1, e2, fun vs F2 H2 sm2 ok2 _ hl hx hn hd g2 => ?_⟩⟩
  have back : ∀ p : Addr, H1 p = none → H p = none := fun p n => by
    cases q : H p with
    | none => rfl
    | some o => exact absurd n (g1.st p (by rw [q]; exact fun z => nomatch z))
  have nh : ¬ isH h p1 := ok.nohd np
  refine c _ F2 H2 (g1.ff.trans sm2) ok2 (g1.ff.trans sm2) (by simp [hl]) (fun j x e => ?_) (fun j ds p e e' => ?_) (fun i j ds es p hij e e' q q' => ?_) (g1.trans g2)
  · cases j with
    | zero =>
      cases e
      exact ⟨_, rfl, p1, ws, rfl, g2.nw p1 (by rw [ep]; exact fun z => nomatch z) nf, nh, g2.hh _ _ nh ep, r1.up sm2⟩
    | succ j => exact hx j x e
  · cases j with
    | zero =>
      cases e'
      exact np
    | succ j => exact back p (hn j ds p e e')
  · cases i with
    | zero =>
      cases j with
      | zero => exact hij rfl
      | succ j =>
        cases q
        have z := hn j es p1 e' q'
        rw [ep] at z
        cases z
    | succ i =>
      cases j with
      | zero =>
        cases q'
        have z := hn i ds p1 e q
        rw [ep] at z
        cases z
      | succ j => exact hd i j ds es p (fun z => hij (by rw [z])) e e' q q'
def mPar2 (i j : Nat) (m : EM (List Sl)) : SM := fun env s => (m env s).bind fun p => match p.1 with
  | [x, y] => some (.nx ((env.set i x).set j y) p.2)
  | _ => none
def mPar3 (i j l : Nat) (m : EM (List Sl)) : SM := fun env s => (m env s).bind fun p => match p.1 with
  | [x, y, z] => some (.nx (((env.set i x).set j y).set l z) p.2)
  | _ => none
/-- one of the values of a list goes to a slot -/
theorem Ok.putM {K : PySem.W.Frag} {F H F' H' : Hp} {σ σ' : L2.St} {env env' : Env} {s s0 : S} (k0 : Ok K h F0 H0 σ H F env s0) (k : Ok K h F0 H0 σ' H' F' env' s) (i : Nat) {v : V} {x : Sl} (q : SlOk K h F' H' (some v) x)
    (n : ∀ (ds : List D) (p : Addr), x = .ow ds → v = .ref p → H p = none ∧ ∀ (j : Nat) (es : List D), j ≠ i → env'[j]? = some (.ow es) → σ'[j]? ≠ some (some (.ref p))) : Ok K h F0 H0 (σ'.set i (some v)) H' F' (env'.set i x) s :=
  k.put i (some v) x q fun ds p e e2 => by
    cases e2
    obtain ⟨n1, n2⟩ := n ds p e rfl
    exact ⟨k0.no0 n1, n2⟩
theorem set_at {α : Type} {l : List α} {i j : Nat} {a b : α} (h : (l.set i a)[j]? = some b) : (j = i ∧ b = a) ∨ (j ≠ i ∧ l[j]? = some b) := by
  rw [List.getElem?_set] at h
  by_cases e : i = j
  · rw [if_pos e] at h
    split at h
    · exact .inl ⟨e.symm, (Option.some.inj h).symm⟩
    · cases h
  · rw [if_neg e] at h
    exact .inr ⟨fun z => e z.symm, h⟩
theorem s_par2 {i j : Nat} {x y : Str} {a b : Expr} {px py pt pos : Pos} {kt k2 pt2} {m : EM (List Sl)} (hc : X.calm = true) (hN : X.N.Nodup) (hi : X.N[i]? = some x) (hj : X.N[j]? = some y) (hij : i ≠ j)
    (hx : X.env.scope.names.lookup x = some .local) (hy : X.env.scope.names.lookup y = some .local) (ka : PA X [a, b] (rdM X.K h F0 H0 m))
    (hw : swappedStores [.Tuple [.Name x px, .Name y py] kt pt] (.Tuple [a, b] k2 pt2) X.env = pure (some [x, y]))
    (hs : swapsWithSole [.Tuple [.Name x px, .Name y py] kt pt] (.Tuple [a, b] k2 pt2) pos.line X.env = pure false := by rfl) :
    PS X (.Assign [.Tuple [.Name x px, .Name y py] kt pt] (.Tuple [a, b] k2 pt2) pos) (rdS X.K h F0 H0 X.mg W (mPar2 i j m)) := ps_w (ps_par hc hN hi hj hij hx hy ka hw hs) fun E σ H q => by
  obtain ⟨F, env, s, o, ok, e, c⟩ := q
  obtain ⟨⟨xs, s1⟩, e1, e⟩ := bind_some' e
  dsimp only at e
  split at e
  · rename_i u w
    cases e
    refine ⟨F, env, s, _, _, ok, e1, fun vs F1 H1 sm ok1 _ hl hx hn hd g1 => ?_⟩
    match vs, hl with
    | [v0, v1], _ =>
      refine ⟨v0, v1, rfl, c _ H1 F1 sm ?_⟩
      obtain ⟨v0', z0, q0⟩ := hx 0 _ rfl
      cases z0
      obtain ⟨v1', z1, q1⟩ := hx 1 _ rfl
      cases z1
      have k1 := ok.putM ok1 i q0 fun ds p ex ev => ⟨hn 0 ds p (by rw [ex]; rfl) (by rw [ev]; rfl), fun l es _ el => ok.noow (hn 0 ds p (by rw [ex]; rfl) (by rw [ev]; rfl)) l es el⟩
      refine ok.putM k1 j q1 fun ds p ex ev => ⟨hn 1 ds p (by rw [ex]; rfl) (by rw [ev]; rfl), fun l es hlj el el2 => ?_⟩
      rcases set_at el with ⟨rfl, b⟩ | ⟨b1, b2⟩
      · rcases set_at el2 with ⟨_, b'⟩ | ⟨b1, _⟩
        · exact hd 0 1 es ds p (by decide) (by rw [b]; rfl) (by rw [ex]; rfl) (by rw [Option.some.inj b']; rfl) (by rw [ev]; rfl)
        · exact b1 rfl
      · rcases set_at el2 with ⟨b3, _⟩ | ⟨_, b4⟩
        · exact b1 b3
        · exact ok.noow (hn 1 ds p (by rw [ex]; rfl) (by rw [ev]; rfl)) l es b2 b4
  · cases e
theorem s_par3 {i j l : Nat} {x y z : Str} {a b c' : Expr} {px py pz pt pos : Pos} {kt k2 pt2} {m : EM (List Sl)} (hc : X.calm = true) (hN : X.N.Nodup) (hi : X.N[i]? = some x) (hj : X.N[j]? = some y) (hl : X.N[l]? = some z) (hij : i ≠ j) (hil : i ≠ l) (hjl : j ≠ l)
    (hx : X.env.scope.names.lookup x = some .local) (hy : X.env.scope.names.lookup y = some .local) (hz : X.env.scope.names.lookup z = some .local) (ka : PA X [a, b, c'] (rdM X.K h F0 H0 m))
    (hw : swappedStores [.Tuple [.Name x px, .Name y py, .Name z pz] kt pt] (.Tuple [a, b, c'] k2 pt2) X.env = pure (some [x, y, z]))
    (hs : swapsWithSole [.Tuple [.Name x px, .Name y py, .Name z pz] kt pt] (.Tuple [a, b, c'] k2 pt2) pos.line X.env = pure false := by rfl) :
    PS X (.Assign [.Tuple [.Name x px, .Name y py, .Name z pz] kt pt] (.Tuple [a, b, c'] k2 pt2) pos) (rdS X.K h F0 H0 X.mg W (mPar3 i j l m)) := ps_w (ps_par3 hc hN hi hj hl hij hil hjl hx hy hz ka hw hs) fun E σ H q => by
  obtain ⟨F, env, s, o, ok, e, c⟩ := q
  obtain ⟨⟨xs, s1⟩, e1, e⟩ := bind_some' e
  dsimp only at e
  split at e
  · rename_i u w t
    cases e
    refine ⟨F, env, s, _, _, ok, e1, fun vs F1 H1 sm ok1 _ hl hx hn hd g1 => ?_⟩
    match vs, hl with
    | [v0, v1, v2], _ =>
      refine ⟨v0, v1, v2, rfl, c _ H1 F1 sm ?_⟩
      obtain ⟨v0', z0, q0⟩ := hx 0 _ rfl
      cases z0
      obtain ⟨v1', z1, q1⟩ := hx 1 _ rfl
      cases z1
      obtain ⟨v2', z2, q2⟩ := hx 2 _ rfl
      cases z2
      have k1 := ok.putM ok1 i q0 fun ds p ex ev => ⟨hn 0 ds p (by rw [ex]; rfl) (by rw [ev]; rfl), fun l es _ el => ok.noow (hn 0 ds p (by rw [ex]; rfl) (by rw [ev]; rfl)) l es el⟩
      have k2 := ok.putM k1 j q1 fun ds p ex ev => ⟨hn 1 ds p (by rw [ex]; rfl) (by rw [ev]; rfl), fun l es hlj el el2 => by
        rcases set_at el with ⟨rfl, b⟩ | ⟨b1, b2⟩
        · rcases set_at el2 with ⟨_, b'⟩ | ⟨b1, _⟩
          · exact hd 0 1 es ds p (by decide) (by rw [b]; rfl) (by rw [ex]; rfl) (by rw [Option.some.inj b']; rfl) (by rw [ev]; rfl)
          · exact b1 rfl
        · rcases set_at el2 with ⟨b3, _⟩ | ⟨_, b4⟩
          · exact b1 b3
          · exact ok.noow (hn 1 ds p (by rw [ex]; rfl) (by rw [ev]; rfl)) l es b2 b4⟩
      refine ok.putM k2 l q2 fun ds p ex ev => ⟨hn 2 ds p (by rw [ex]; rfl) (by rw [ev]; rfl), fun t es hlj el el2 => ?_⟩
      rcases set_at el with ⟨rfl, b⟩ | ⟨b1, b2⟩
      · rcases set_at el2 with ⟨_, b'⟩ | ⟨b1, _⟩
        · exact hd 1 2 es ds p (by decide) (by rw [b]; rfl) (by rw [ex]; rfl) (by rw [Option.some.inj b']; rfl) (by rw [ev]; rfl)
        · exact b1 rfl
      · rcases set_at el2 with ⟨b3, _⟩ | ⟨_, el2⟩
        · exact b1 b3
        · rcases set_at b2 with ⟨rfl, b⟩ | ⟨b1, b2⟩
          · rcases set_at el2 with ⟨_, b'⟩ | ⟨b1, _⟩
            · exact hd 0 2 es ds p (by decide) (by rw [b]; rfl) (by rw [ex]; rfl) (by rw [Option.some.inj b']; rfl) (by rw [ev]; rfl)
            · exact b1 rfl
          · rcases set_at el2 with ⟨b3, _⟩ | ⟨_, b4⟩
            · exact b1 b3
            · exact ok.noow (hn 2 ds p (by rw [ex]; rfl) (by rw [ev]; rfl)) t es b2 b4
  · cases e
end

/-! ### a def -/
def mFun (n N : Nat) (b : SM) : Fn := fun ds s => if ds.length = n then (b (ds.map .im ++ List.replicate (N - n) .un) s).bind fun o => match o with
  | .rt d s1 => some (d, s1)
  | .nx _ s1 => some (.none, s1)
  | _ => none else none
theorem ok_start {K : PySem.W.Frag} {h : Hd} {F0 H : Hp} {N ps : List Str} {vs : List V} {ds : List D} {s0 : S} (hl : ps.length ≤ N.length) (sm : Same F0 H) (hd : HdOk h F0 H s0) (r : RepL K h F0 vs ds) (el : ds.length = ps.length) :
    Ok K h F0 H (L2.start N vs) H F0 (ds.map .im ++ List.replicate (N.length - ps.length) .un) s0 := by
  refine ⟨?_, fun i y ei => ?_, .refl sm, hd, fun i es p ei => ?_, fun i j es fs p _ ei => ?_⟩
  · unfold L2.start
    simp only [List.length_append, List.length_map, List.length_replicate, r.len, el]
  · unfold L2.start
    by_cases hi : i < ds.length
    · rw [List.getElem?_append_left (by rw [List.length_map]; exact hi), List.getElem?_map, List.getElem?_eq_getElem hi] at ei
      cases ei
      obtain ⟨v, ev, rv⟩ := r.get (List.getElem?_eq_getElem hi)
      refine ⟨some v, ?_, v, rfl, rv⟩
      rw [List.getElem?_append_left (by rw [List.length_map, r.len]; exact hi), List.getElem?_map, ev]
      rfl
    · have hi' : ds.length ≤ i := by omega
      rw [List.getElem?_append_right (by rw [List.length_map]; exact hi'), List.getElem?_replicate] at ei
      split at ei
      · rename_i hlt
        cases ei
        rw [List.length_map] at hlt
        refine ⟨none, ?_, trivial⟩
        rw [List.getElem?_append_right (by rw [List.length_map, r.len]; exact hi'), List.getElem?_replicate, if_pos (by rw [List.length_map, r.len, el]; rw [el] at hlt; exact hlt)]
      · cases ei
  · exfalso
    have hm := List.mem_of_getElem? ei
    rcases List.mem_append.mp hm with hm | hm
    · obtain ⟨_, _, z⟩ := List.mem_map.mp hm
      cases z
    · cases List.eq_of_mem_replicate hm
  · exfalso
    have hm := List.mem_of_getElem? ei
    rcases List.mem_append.mp hm with hm | hm
    · obtain ⟨_, _, z⟩ := List.mem_map.mp hm
      cases z
    · cases List.eq_of_mem_replicate hm
theorem fn_ok {P : Program} {w : World} {K : PySem.W.Frag} {mg : Str → Option Value} {base : Heap} {x qual : Str} {params : Arguments} {body : List Stmt} {scope : Scope} {dvs : List V} {kws : List (Str × V)} {f : Addr} {fd : FuncData} {N ps : List Str} {k : Nat} {m : SM}
    (F : FunD K x qual params body scope dvs kws f fd) (Sc : FnScope N ps scope) (hl : ps.length ≤ N.length)
    (hb : ∀ (h : Hd) (F0 H0 : Hp) (cdv : Value) (A : Around) (outer : List PySem.Env) (s : Shared) (H : Hp) (E : XK), Room k (A.deeper (envOfC qual scope s.heap.objs.size f cdv)) →
      PSs (cxOf CX0 P w K mg base N qual scope f cdv A outer s H E).nox body (rdS K h F0 H0 mg (fun _ _ _ _ => False) m)) : FnOk P w K mg base CX0 (k + 1) f fd ps (spD K (mFun ps.length N.length m)) := by
  have hlen : ∀ (φ : D × S) (ds : List D) (s : S), mFun ps.length N.length m ds s = some φ → ds.length = ps.length := fun φ ds s e => by
    unfold mFun at e
    split at e
    · assumption
    · cases e
  refine F.ok Sc (fun vs H Q E q => ?_) (fun cdv A outer s H vs Q E hr q => ?_)
  · obtain ⟨h, F, ds, s, d, s', _, _, r, e, _⟩ := q
    rw [r.len]
    exact hlen _ _ _ e
  · obtain ⟨h, F0, ds, s0, d, s', sm, hd, r, e, c⟩ := q
    have el := hlen _ _ _ e
    unfold mFun at e
    rw [if_pos el] at e
    obtain ⟨o, e1, e2⟩ := bind_some' e
    refine ⟨_, (hb h F0 H cdv A outer s H E hr).nox, F0, _, s0, o, ok_start hl sm hd r el, e1, ?_⟩
    cases o with
    | nx env s1 =>
        cases e2
        exact fun σ H1 F1 _ ok1 => c _ F1 H1 ok1.gr ok1.hd .non
    | rt d s1 =>
        cases e2
        exact fun v H1 F1 g1 hd1 r1 => c v F1 H1 g1 hd1 r1
    | bk _ _ => cases e2
    | ct _ _ => cases e2
    | er _ _ _ _ => cases e2
theorem fn_none {P : Program} {w : World} {K : PySem.W.Frag} {mg : Str → Option Value} {base : Heap} {f : Addr} {fd : FuncData} {ps : List Str} (k : Nat) : FnOk P w K mg base CX0 k f fd ps (spD K fun _ _ => none) :=
  ⟨fun vs H Q E q => by
    obtain ⟨h, F, ds, s, d, s', _, _, _, e, _⟩ := q
    exact (nomatch e), fun A outer s H args us vs Q E _ _ _ _ q => by
    obtain ⟨h, F, ds, s, d, s', _, _, _, e, _⟩ := q
    cases e⟩
theorem fc_of {P : Program} {w : World} {K : PySem.W.Frag} {mg : Str → Option Value} {base : Heap} {k : Nat} {x : Str} {φ : Fn} {f : Addr} {fd : FuncData} {ps : List Str} (G : FnOk P w K mg base CX0 k f fd ps (spD K φ)) (hm : mg x = some (.ref f)) (hk : PySem.W.keepIn K (.ref f) = true) (hb : Binds K fd ps []) :
    Fc P w K mg base k x φ := ⟨f, fd, ps, G, hm, hk, hb⟩
end DL
set_option Elab.async false
set_option linter.all false
set_option maxRecDepth 100000
set_option maxHeartbeats 4000000
/-! DL, part 6: operators and built-ins on data. -/
namespace DL
open PySem PySem.Spec PyProof.Rows L2
/-! ### a new object, known -/
theorem k_lst {K : PySem.W.Frag} {h : Hd} {F H : Hp} {p : Addr} {vs : List V} {ds : List D} {Q : VK} (sm : Same F H) (np : H p = none) (k : ∀ u F' H', Gp F H F' H' → Rep K h F' u (.list ds) → Q u H') (r : RepL K h F vs ds) : Q (.ref p) (upd H p (.lst vs)) :=
  have g : Gp F H (upd F p (.lst vs)) (upd H p (.lst vs)) := .new sm np
  k _ _ _ g (.lst upd_same (r.up g.ff))
theorem k_tup {K : PySem.W.Frag} {h : Hd} {F H : Hp} {p : Addr} {vs : List V} {ds : List D} {Q : VK} (sm : Same F H) (np : H p = none) (k : ∀ u F' H', Gp F H F' H' → Rep K h F' u (.tuple ds) → Q u H') (r : RepL K h F vs ds) : Q (.ref p) (upd H p (.tup vs)) :=
  have g : Gp F H (upd F p (.tup vs)) (upd H p (.tup vs)) := .new sm np
  k _ _ _ g (.tup (.inl (.inl upd_same)) (r.up g.ff))
/-! ### ints -/
section
variable {K : PySem.W.Frag}
def iiD (C : Int → Int → Bool) (g : Int → Int → D) : D → D → Option D
  | .int i, .int j => if C i j = true then some (g i j) else none
  | _, _ => none
def vD (d : D) : V := match d with
  | .int i => .int i
  | .bool b => .bl b
  | .str x => .str x
  | _ => .non
/-- from a rule on two ints -/
theorem od_I {C : Int → Int → Prop} {c : Int → Int → Bool} {g : Int → Int → V} {gd : Int → Int → D} (hC : ∀ i j, c i j = true → C i j) (hg : ∀ i j (h : Hd) (F : Hp), Rep K h F (g i j) (gd i j)) : OpD K (rI C g) (iiD c gd) := by
  intro h F H v w d e u Q sm r1 r2 ef k
  unfold iiD at ef
  split at ef
  · split at ef
    · rename_i i j hc
      cases ef
      cases r1
      cases r2
      exact ⟨i, j, rfl, rfl, hC i j hc, k _ F H (.refl sm) (hg i j h F)⟩
    · cases ef
  · cases ef
def ii0 (g : Int → Int → D) : D → D → Option D
  | .int i, .int j => some (g i j)
  | _, _ => none
theorem od_0 {g : Int → Int → V} {gd : Int → Int → D} (hg : ∀ i j (h : Hd) (F : Hp), Rep K h F (g i j) (gd i j)) : OpD K (rI0 g) (ii0 gd) := by
  intro h F H v w d e u Q sm r1 r2 ef k
  unfold ii0 at ef
  split at ef
  · rename_i i j
    cases ef
    cases r1
    cases r2
    exact ⟨i, j, rfl, rfl, k _ F H (.refl sm) (hg i j h F)⟩
  · cases ef
abbrev subD : D → D → Option D := ii0 fun i j => .int (i - j)
abbrev ltD : D → D → Option D := ii0 fun i j => .bool (decide (i < j))
abbrev leD : D → D → Option D := ii0 fun i j => .bool (decide (i ≤ j))
abbrev gtD : D → D → Option D := ii0 fun i j => .bool (decide (j < i))
abbrev geD : D → D → Option D := ii0 fun i j => .bool (decide (j ≤ i))
theorem od_sub : OpD K (rI0 fun i j => .int (i - j)) subD := od_0 fun _ _ _ _ => .int _
theorem od_lt : OpD K (rI0 fun i j => .bl (decide (i < j))) ltD := od_0 fun _ _ _ _ => .bl _
theorem od_le : OpD K (rI0 fun i j => .bl (decide (i ≤ j))) leD := od_0 fun _ _ _ _ => .bl _
theorem od_gt : OpD K (rI0 fun i j => .bl (decide (j < i))) gtD := od_0 fun _ _ _ _ => .bl _
theorem od_ge : OpD K (rI0 fun i j => .bl (decide (j ≤ i))) geD := od_0 fun _ _ _ _ => .bl _
/-- // by any divisor but 0, where C divides by itself -/
def divOk (i j : Int) : Bool := decide (j ≠ 0) && !Builtin.divisionGoesByPylong i j
abbrev divD : D → D → Option D := iiD divOk fun i j => .int (i.fdiv j)
theorem op_fdivG {X : Cx} : OpR X (binaryOp .FloorDiv) (rI (fun i j => divOk i j = true) fun i j => .int (i.fdiv j)) := opI fun i j _ _ _ _ _ hc q => by
  obtain ⟨h1, h2⟩ := Bool.and_eq_true_iff.mp hc
  exact floordiv_int (of_decide_eq_true h1) q (.inl (by simpa using h2))
theorem od_div : OpD K (rI (fun i j => divOk i j = true) fun i j => .int (i.fdiv j)) divD := od_I (fun _ _ h => h) fun _ _ _ _ => .int _
abbrev modD : D → D → Option D := iiD (fun _ j => decide (j ≠ 0)) fun i j => .int (i.fmod j)
theorem od_mod : OpD K (rI (fun _ j => j ≠ 0) fun i j => .int (i.fmod j)) modD := od_I (fun _ _ h => of_decide_eq_true h) fun _ _ _ _ => .int _
abbrev powD : D → D → Option D := iiD (fun i j => decide (0 ≤ j ∧ j ≤ 1000000 ∧ i.natAbs < 2 ^ 64)) fun i j => .int (i ^ j.toNat)
theorem od_pow : OpD K (rI CPow fun i j => .int (i ^ j.toNat)) powD := od_I (fun i j h => show 0 ≤ j ∧ j ≤ 1000000 ∧ i.natAbs < 2 ^ 64 from of_decide_eq_true h) fun _ _ _ _ => .int _
theorem od_iadd : OpD K (ipI fun i j => i + j) (ii0 fun i j => .int (i + j)) := od_0 (g := fun i j => .int (i + j)) fun _ _ _ _ => .int _
theorem od_isub : OpD K (ipI fun i j => i - j) (ii0 fun i j => .int (i - j)) := od_0 (g := fun i j => .int (i - j)) fun _ _ _ _ => .int _
def negD : D → Option D
  | .int i => some (.int (-i))
  | _ => none
theorem ud_neg : UnD K (rU fun i => .int (-i)) negD := by
  intro h F H v d g Q sm r e k
  unfold negD at e
  split at e
  · cases e
    cases r
    exact ⟨_, rfl, k _ F H (.refl sm) (.int _)⟩
  · cases e
/-! ### + and * -/
def addD : D → D → Option D
  | .int i, .int j => some (.int (i + j))
  | .list xs, .list ys => if xs.length + ys.length ≤ 1000000 then some (.list (xs ++ ys)) else none
  | .tuple xs, .tuple ys => if xs.length + ys.length ≤ 1000000 then some (.tuple (xs ++ ys)) else none
  | .str x, .str y => if x.length + y.length ≤ 1000000 then some (.str (x ++ y)) else none
  | _, _ => none
def rAddA (K : PySem.W.Frag) : R2 := fun x y H Q => (rI0 (fun i j => .int (i + j))) x y H Q ∨ rCat x y H Q ∨ rCatA K x y H Q ∨ (∃ i j, x = .str i ∧ y = .str j ∧ i.length + j.length ≤ sizeLine ∧ Q (.str (i ++ j)) H)
theorem op_addA {X : Cx} : OpR X (binaryOp .Add) (rAddA X.K) := (op_add).or ((op_cat).or ((op_catA).or op_add_str))
theorem leM {n : Nat} (h : n ≤ 1000000) : n ≤ sizeLine := Nat.le_trans h (by decide)
theorem od_add : OpD K (rAddA K) addD := by
  intro h F H v w d e u Q sm r1 r2 ef k
  unfold addD at ef
  split at ef
  · cases ef
    cases r1
    cases r2
    exact .inl ⟨_, _, rfl, rfl, k _ F H (.refl sm) (.int _)⟩
  · split at ef
    · rename_i xs ys hl
      cases ef
      cases r1 with
      | lst a1 q1 =>
        cases r2 with
        | lst a2 q2 =>
          refine .inr (.inl ⟨_, _, _, _, rfl, rfl, sm _ _ a1, sm _ _ a2, by rw [q1.len, q2.len]; exact leM hl, fun p np => k_lst sm np k (q1.append q2)⟩)
    · cases ef
  · split at ef
    · rename_i xs ys hl
      cases ef
      cases r1 with
      | tup a1 q1 =>
        cases r2 with
        | tup a2 q2 =>
          rename_i p1 vs p2 ws
          refine .inr (.inr (.inl ⟨_, _, _, _, rfl, rfl, sq_t sm a1, sq_t sm a2, by rw [q1.len, q2.len]; exact leM hl, fun e1 => ?_, fun _ e2 => ?_, fun _ _ p np => k_tup sm np k (q1.append q2)⟩))
          · subst e1
            cases q1
            exact k _ F H (.refl sm) (.tup a2 q2)
          · subst e2
            cases q2
            rw [List.append_nil] at k
            exact k _ F H (.refl sm) (.tup a1 q1)
    · cases ef
  · split at ef
    · rename_i hl
      cases ef
      cases r1
      cases r2
      exact .inr (.inr (.inr ⟨_, _, rfl, rfl, leM hl, k _ F H (.refl sm) (.str _)⟩))
    · cases ef
  · cases ef
def mulOk (i j : Int) : Bool := decide (i.natAbs.log2 + j.natAbs.log2 < 1000000)
def repD (xs : List D) (k : Int) : Option D := if decide (-(2 ^ 63) ≤ k ∧ k < 2 ^ 63) && decide (xs.length * k.toNat ≤ 1000000) then some (.list (List.replicate k.toNat xs).flatten) else none
def mulD : D → D → Option D
  | .int i, .int j => if mulOk i j = true then some (.int (i * j)) else none
  | .list xs, .int k => repD xs k
  | _, _ => none
def rMulA : R2 := fun x y H Q => (rI CMulW fun i j => .int (i * j)) x y H Q ∨ rRep x y H Q
theorem op_mulA {X : Cx} : OpR X (binaryOp .Mult) rMulA := (op_mulW).or op_rep
theorem od_mul : OpD K rMulA mulD := by
  intro h F H v w d e u Q sm r1 r2 ef k
  unfold mulD at ef
  split at ef
  · split at ef
    · rename_i hl
      cases ef
      cases r1
      cases r2
      exact .inl ⟨_, _, rfl, rfl, show _ < 1000000 from of_decide_eq_true hl, k _ F H (.refl sm) (.int _)⟩
    · cases ef
  · unfold repD at ef
    split at ef
    · rename_i xs kk hl
      cases ef
      obtain ⟨h1, h2⟩ := Bool.and_eq_true_iff.mp hl
      have h3 := of_decide_eq_true h1
      have h4 := of_decide_eq_true h2
      cases r2
      cases r1 with
      | lst a1 q1 =>
        refine .inr ⟨_, _, _, rfl, rfl, sm _ _ a1, h3.1, h3.2, by rw [q1.len]; exact leM h4, ?_⟩
        exact fun p np => k_lst sm np k (q1.rep _)
    · cases ef
  · cases ef
/-! ### == and != -/
def okEq (d : D) : Bool := plain d && SeqAt.shaped d
def eqD (d e : D) : Option D := if (okEq d && okEq e) = true then some (.bool (PyData.eqv d e)) else none
def neD (d e : D) : Option D := if (okEq d && okEq e) = true then some (.bool (!PyData.eqv d e)) else none
theorem od_eq : OpD K (rEqD K) eqD := by
  intro h F H v w d e u Q sm r1 r2 ef k
  unfold eqD at ef
  split at ef
  · rename_i hl
    cases ef
    obtain ⟨h1, h2⟩ := Bool.and_eq_true_iff.mp hl
    obtain ⟨p1, s1⟩ := Bool.and_eq_true_iff.mp h1
    obtain ⟨p2, s2⟩ := Bool.and_eq_true_iff.mp h2
    exact ⟨d, e, r1.dp sm d v p1, r2.dp sm e w p2, s1, s2, k _ F H (.refl sm) (.bl _)⟩
  · cases ef
theorem od_ne : OpD K (rNeD K) neD := by
  intro h F H v w d e u Q sm r1 r2 ef k
  unfold neD at ef
  split at ef
  · rename_i hl
    cases ef
    obtain ⟨h1, h2⟩ := Bool.and_eq_true_iff.mp hl
    obtain ⟨p1, s1⟩ := Bool.and_eq_true_iff.mp h1
    obtain ⟨p2, s2⟩ := Bool.and_eq_true_iff.mp h2
    exact ⟨d, e, r1.dp sm d v p1, r2.dp sm e w p2, s1, s2, k _ F H (.refl sm) (.bl _)⟩
  · cases ef
/-! ### is None, is True -/
def isNone : D → Bool
  | .none => true
  | _ => false
def isD : D → D → Option D
  | d, .none => some (.bool (isNone d))
  | .bool a, .bool b => some (.bool (decide (a = b)))
  | _, _ => none
def isnD : D → D → Option D
  | d, .none => some (.bool (!isNone d))
  | .bool a, .bool b => some (.bool (!decide (a = b)))
  | _, _ => none
def rIsA : R2 := fun x y H Q => (y = .non ∧ Q (.bl (decide (x = .non))) H) ∨ rIsB x y H Q
def rIsnA : R2 := fun x y H Q => (y = .non ∧ Q (.bl (!decide (x = .non))) H) ∨ rNotB x y H Q
theorem op_isA {X : Cx} : OpR X (compareOp .Is) rIsA := (op_isN).or op_isBl
theorem op_isnA {X : Cx} : OpR X (compareOp .IsNot) rIsnA := (op_notN).or op_notBl
theorem Rep.isN {h : Hd} {F : Hp} {v : V} {d : D} (r : Rep K h F v d) : decide (v = .non) = isNone d := by
  cases r <;> first | rfl | exact decide_eq_false (fun z => nomatch z)
theorem od_is : OpD K rIsA isD := by
  intro h F H v w d e u Q sm r1 r2 ef k
  unfold isD at ef
  split at ef
  · cases ef
    cases r2
    exact .inl ⟨rfl, by rw [r1.isN]; exact k _ F H (.refl sm) (.bl _)⟩
  · cases ef
    cases r1
    cases r2
    exact .inr ⟨_, _, rfl, rfl, k _ F H (.refl sm) (.bl _)⟩
  · cases ef
theorem od_isn : OpD K rIsnA isnD := by
  intro h F H v w d e u Q sm r1 r2 ef k
  unfold isnD at ef
  split at ef
  · cases ef
    cases r2
    exact .inl ⟨rfl, by rw [r1.isN]; exact k _ F H (.refl sm) (.bl _)⟩
  · cases ef
    cases r1
    cases r2
    exact .inr ⟨_, _, rfl, rfl, k _ F H (.refl sm) (.bl _)⟩
  · cases ef
/-! ### x[i] -/
def ixD : D → D → Option D
  | .list ds, .int k => atI ds k
  | .tuple ds, .int k => atI ds k
  | .str z, .int k => if z.length ≤ 1000000 then (atI z.cps.toList k).map fun c => .str ⟨#[c]⟩ else none
  | _, _ => none
theorem od_ix : OpD K (rIx K) ixD := by
  intro h F H v w d e u Q sm r1 r2 ef k
  unfold ixD at ef
  split at ef
  · cases r2
    cases r1 with
    | lst a q =>
      obtain ⟨v, ev, rv⟩ := q.at ef
      exact .inl ⟨_, _, _, v, rfl, rfl, .of (sm _ _ a), ev, k v F H (.refl sm) rv⟩
  · cases r2
    cases r1 with
    | tup a q =>
      obtain ⟨v, ev, rv⟩ := q.at ef
      exact .inr (.inl ⟨_, _, _, v, rfl, rfl, sq_t sm a, ev, k v F H (.refl sm) rv⟩)
  · split at ef
    · rename_i hl
      cases r1
      cases r2
      cases ec : atI (Str.cps _).toList _ with
      | none =>
        rw [ec] at ef
        cases ef
      | some c =>
        rw [ec] at ef
        cases ef
        exact .inr (.inr ⟨_, _, c, rfl, rfl, leM hl, ec, k _ F H (.refl sm) (.str _)⟩)
    · cases ef
  · cases ef
/-! ### built-ins -/
def lenD : List D → Option D
  | [.list ds] => some (.int ds.length)
  | [.tuple ds] => some (.int ds.length)
  | [.str x] => if x.length ≤ 1000000 then some (.int x.length) else none
  | _ => none
theorem ca_len : CaD K (fun xs H Q => ∃ x n, xs = [x] ∧ LenV K x H n ∧ Q (.int n) H) lenD := by
  intro h F H vs ds g Q sm r e k
  unfold lenD at e
  split at e
  · cases e
    cases r with
    | cons r1 r2 =>
      cases r2
      cases r1 with
      | lst a q => exact ⟨_, _, rfl, .inl ⟨_, .of (sm _ _ a), by rw [q.len]⟩, k _ F H (.refl sm) (.int _)⟩
  · cases e
    cases r with
    | cons r1 r2 =>
      cases r2
      cases r1 with
      | tup a q => exact ⟨_, _, rfl, .inr ⟨_, sq_t sm a, by rw [q.len]⟩, k _ F H (.refl sm) (.int _)⟩
  · split at e
    · rename_i hl
      cases e
      cases r with
      | cons r1 r2 =>
        cases r2
        cases r1
        exact ⟨_, _, rfl, ⟨leM hl, rfl⟩, k _ F H (.refl sm) (.int _)⟩
    · cases e
  · cases e
def absD : List D → Option D
  | [.int i] => some (.int (if i < 0 then -i else i))
  | _ => none
theorem ca_abs : CaD K (fun xs H Q => ∃ i, xs = [.int i] ∧ Q (.int (if i < 0 then -i else i)) H) absD := by
  intro h F H vs ds g Q sm r e k
  unfold absD at e
  split at e
  · cases e
    cases r with
    | cons r1 r2 =>
      cases r2
      cases r1
      exact ⟨_, rfl, k _ F H (.refl sm) (.int _)⟩
  · cases e
def intD : List D → Option D
  | [.int i] => some (.int i)
  | [.bool b] => some (.int (if b then 1 else 0))
  | _ => none
theorem ca_int : CaD K (fun xs H Q => (∃ i, xs = [.int i] ∧ Q (.int i) H) ∨ ∃ k, xs = [.bl k] ∧ Q (.int (if k then 1 else 0)) H) intD := by
  intro h F H vs ds g Q sm r e k
  unfold intD at e
  split at e
  · cases e
    cases r with
    | cons r1 r2 =>
      cases r2
      cases r1
      exact .inl ⟨_, rfl, k _ F H (.refl sm) (.int _)⟩
  · cases e
    cases r with
    | cons r1 r2 =>
      cases r2
      cases r1
      exact .inr ⟨_, rfl, k _ F H (.refl sm) (.int _)⟩
  · cases e
def strD : List D → Option D
  | [.int i] => if i.natAbs.log2 < 1920 then some (.str (toString i)) else none
  | _ => none
theorem ca_str : CaD K (fun xs H Q => ∃ i : Int, xs = [.int i] ∧ i.natAbs.log2 < 1920 ∧ Q (.str (toString i)) H) strD := by
  intro h F H vs ds g Q sm r e k
  unfold strD at e
  split at e
  · split at e
    · rename_i hl
      cases e
      cases r with
      | cons r1 r2 =>
        cases r2
        cases r1
        exact ⟨_, rfl, hl, k _ F H (.refl sm) (.str _)⟩
    · cases e
  · cases e
def blsOf : List D → Option (List Bool)
  | [] => some []
  | .bool b :: ds => (blsOf ds).map (b :: ·)
  | _ => none
theorem blsOf_eq : ∀ {ds : List D} {bs : List Bool}, blsOf ds = some bs → ds = bs.map PyData.bool
  | [], bs, e => by
    cases e
    rfl
  | .bool b :: ds, bs, e => by
    have e' : (blsOf ds).map (b :: ·) = some bs := e
    cases q : blsOf ds with
    | none =>
      rw [q] at e'
      cases e'
    | some cs =>
      rw [q] at e'
      cases e'
      rw [blsOf_eq q]
      rfl
  | .none :: _, _, e => by cases e
  | .int _ :: _, _, e => by cases e
  | .str _ :: _, _, e => by cases e
  | .list _ :: _, _, e => by cases e
  | .tuple _ :: _, _, e => by cases e
  | .dict _ :: _, _, e => by cases e
def allD : List D → Option D
  | [.list ds] => (blsOf ds).map fun bs => .bool (bs.all id)
  | _ => none
def anyD : List D → Option D
  | [.list ds] => (blsOf ds).map fun bs => .bool (bs.any id)
  | _ => none
theorem ca_all : CaD K (rAll K) allD := by
  intro h F H vs ds g Q sm r e k
  unfold allD at e
  split at e
  · rename_i es
    cases q : blsOf es with
    | none =>
      rw [q] at e
      cases e
    | some bs =>
      rw [q] at e
      cases e
      have e2 := blsOf_eq q
      subst e2
      cases r with
      | cons r1 r2 =>
        cases r2
        cases r1 with
        | lst a q2 => exact ⟨_, bs, rfl, by rw [← q2.bls]; exact .of (sm _ _ a), k _ F H (.refl sm) (.bl _)⟩
  · cases e
theorem ca_any : CaD K (rAny K) anyD := by
  intro h F H vs ds g Q sm r e k
  unfold anyD at e
  split at e
  · rename_i es
    cases q : blsOf es with
    | none =>
      rw [q] at e
      cases e
    | some bs =>
      rw [q] at e
      cases e
      have e2 := blsOf_eq q
      subst e2
      cases r with
      | cons r1 r2 =>
        cases r2
        cases r1 with
        | lst a q2 => exact ⟨_, bs, rfl, by rw [← q2.bls]; exact .of (sm _ _ a), k _ F H (.refl sm) (.bl _)⟩
  · cases e
def tupleD : List D → Option D
  | [.list ds] => some (.tuple ds)
  | [.tuple ds] => some (.tuple ds)
  | _ => none
theorem ca_tuple : CaD K (fun xs H Q => ∃ p ys, xs = [.ref p] ∧ ((SqL K H p ys ∧ ∀ l, H l = none → Q (.ref l) (upd H l (.tup ys))) ∨ (SqT K H p ys ∧ Q (.ref p) H))) tupleD := by
  intro h F H vs ds g Q sm r e k
  unfold tupleD at e
  split at e
  · cases e
    cases r with
    | cons r1 r2 =>
      cases r2
      cases r1 with
      | lst a q =>
        exact ⟨_, _, rfl, .inl ⟨.of (sm _ _ a), fun p np => k_tup sm np k q⟩⟩
  · cases e
    cases r with
    | cons r1 r2 =>
      cases r2
      cases r1 with
      | tup a q => exact ⟨_, _, rfl, .inr ⟨sq_t sm a, k _ F H (.refl sm) (.tup a q)⟩⟩
  · cases e
def max2D : List D → Option D
  | [.int i, .int j] => some (.int (if j > i then j else i))
  | _ => none
theorem ca_max2 : CaD K (fun xs H Q => ∃ i j : Int, xs = [.int i, .int j] ∧ Q (.int (if j > i then j else i)) H) max2D := by
  intro h F H vs ds g Q sm r e k
  unfold max2D at e
  split at e
  · cases e
    cases r with
    | cons r1 r2 =>
      cases r2 with
      | cons r2 r3 =>
        cases r3
        cases r1
        cases r2
        exact ⟨_, _, rfl, k _ F H (.refl sm) (.int _)⟩
  · cases e
def min2D : List D → Option D
  | [.int i, .int j] => some (.int (if j < i then j else i))
  | _ => none
theorem ca_min2 : CaD K (fun xs H Q => ∃ i j : Int, xs = [.int i, .int j] ∧ Q (.int (if j < i then j else i)) H) min2D := by
  intro h F H vs ds g Q sm r e k
  unfold min2D at e
  split at e
  · cases e
    cases r with
    | cons r1 r2 =>
      cases r2 with
      | cons r2 r3 =>
        cases r3
        cases r1
        cases r2
        exact ⟨_, _, rfl, k _ F H (.refl sm) (.int _)⟩
  · cases e
end

/-! ### a new list from list(x), x[a:b], x + y .. -/
def CaL (K : PySem.W.Frag) (r : List V → Hp → VK → Prop) (f : List D → Option (List D)) : Prop :=
  ∀ (h : Hd) (F H : Hp) (vs : List V) (ds gs : List D) (Q : VK), Same F H → RepL K h F vs ds → f ds = some gs → (∀ p ws, H p = none → RepL K h F ws gs → Q (.ref p) (upd H p (.lst ws))) → r vs H Q
def mBL (f : List D → Option (List D)) (a : EM (List D)) : EM (List D) := fun env s => (a env s).bind fun p => (f p.1).bind fun g => some (g, p.2)
def listL : List D → Option (List D)
  | [.list ds] => some ds
  | [.tuple ds] => some ds
  | _ => none
section
variable {X : Cx} {h : Hd} {F0 H0 : Hp}
theorem cl_list {K : PySem.W.Frag} : CaL K (fun xs H Q => ∃ p ys, xs = [.ref p] ∧ (SqL K H p ys ∨ SqT K H p ys) ∧ ∀ l, H l = none → Q (.ref l) (upd H l (.lst ys))) listL := by
  intro h F H vs ds g Q sm r e k
  unfold listL at e
  split at e
  · cases e
    cases r with
    | cons r1 r2 =>
      cases r2
      cases r1 with
      | lst a q => exact ⟨_, _, rfl, .inl (.of (sm _ _ a)), fun p np => k p _ np q⟩
  · cases e
    cases r with
    | cons r1 r2 =>
      cases r2
      cases r1 with
      | tup a q => exact ⟨_, _, rfl, .inr (sq_t sm a), fun p np => k p _ np q⟩
  · cases e
theorem d_tyL {x : Str} {T : String} {e : Expr} {es : List Expr} {p pos : Pos} {r : List V → Hp → VK → Prop} {f : List D → Option (List D)} {ma : EM (List D)} (hr : CaL X.K r f) (hc : CallR X (.type T) r) (hg : Gl X x) (hm : X.mg x = none) (hv : bootBuiltins x = some (.type T))
    (ka : PA X (e :: es) (rdA X.K h F0 H0 ma)) (hn : x ≠ "__name__" := by decide) (hdb : (x == ("__debug__" : Str)) = false := by decide)
    (he : starEach (e :: es) X.env = (false, eval e X.env) :: starEach es X.env := by rfl) (hpl : (backTo pos (starEach es X.env)).any (·.1) = false := by rfl) :
    PE X (.Call (.Name x p) (e :: es) [] pos) (rdL X.K h F0 H0 (mBL f ma)) := pe_w (pe_callTy hc hg hm hv ka hn hdb he hpl) fun σ H Q q => by
  obtain ⟨F, env, s, d, s', ok, e, c⟩ := q
  obtain ⟨⟨d1, s1⟩, e1, e⟩ := bind_some' e
  obtain ⟨g, e3, e⟩ := bind_some' e
  cases e
  refine ⟨F, env, s, d1, s1, ok, e1, fun v F1 H1 g1 ok1 r1 => ?_⟩
  refine hr h F1 H1 v d1 _ Q ok1.fh r1 e3 fun p ws np rw' => ?_
  have g2 : Gp F1 H1 F1 (upd H1 p (.lst ws)) := .own ok1.fh np
  have hp : H p = none := by
    cases q : H p with
    | none => rfl
    | some o => exact absurd np (g1.st p (by rw [q]; exact fun z => nomatch z))
  exact c p ws _ _ hp (ok1.fh.free np) upd_same rw' (g1.trans g2.gr) (ok1.gp g2)
theorem d_ix {a b : Expr} {pos : Pos} {ma mb : EM D} (ka : PE X a (rdE X.K h F0 H0 ma)) (kb : PE X b (rdE X.K h F0 H0 mb)) (hs : PlainIx b) : PE X (.Subscript a b pos) (rdE X.K h F0 H0 (mOp ixD ma mb)) := pe_w (pe_ix ix_seq ka kb hs) (w_op od_ix)
/-- an item of what a name stands for, owned or not -/
def mIxV (i : Nat) (m : EM D) : EM D := fun env s => (m env s).bind fun p => match env[i]? with
  | some (.ow ds) => (ixD (.list ds) p.1).bind fun d => some (d, p.2)
  | some (.im e) => (ixD e p.1).bind fun d => some (d, p.2)
  | _ => none
theorem d_ixV {i : Nat} {a b : Expr} {pos : Pos} {m : EM D} (ka : PE X a (tVar i)) (kb : PE X b (rdE X.K h F0 H0 m)) (hs : PlainIx b) : PE X (.Subscript a b pos) (rdE X.K h F0 H0 (mIxV i m)) := pe_w (pe_ix ix_seq ka kb hs) fun σ H Q q => by
  obtain ⟨F, env, s, d, s', ok, e, c⟩ := q
  obtain ⟨⟨d1, s1⟩, e1, e⟩ := bind_some' e
  split at e
  · rename_i ds hi
    obtain ⟨d2, e2, e⟩ := bind_some' e
    cases e
    obtain ⟨o, e3, p, vs, rfl, _⟩ := ok.sl i _ hi
    refine ⟨_, e3, F, env, s, d1, _, ok, e1, fun v F1 H1 g1 ok1 r1 => ?_⟩
    obtain ⟨o', e4, p', vs', e5, n, nh, hp, r⟩ := ok1.sl i _ hi
    rw [e3] at e4
    have e6 := Option.some.inj e4
    rw [e5] at e6
    cases e6
    cases d1 with
    | int j =>
      cases r1
      have e2' : atI ds j = some d := e2
      obtain ⟨v2, a2, r2⟩ := r.at e2'
      exact .inl ⟨p, vs', j, v2, rfl, rfl, .of hp, a2, c v2 F1 H1 g1 ok1 r2⟩
    | _ => cases e2
  · rename_i ei hi
    obtain ⟨d2, e2, e⟩ := bind_some' e
    cases e
    obtain ⟨o, e3, v0, rfl, r0⟩ := ok.sl i _ hi
    refine ⟨_, e3, F, env, s, d1, _, ok, e1, fun v F1 H1 g1 ok1 r1 => ?_⟩
    exact od_ix h F1 H1 v0 v ei d1 _ Q ok1.fh (r0.up g1.ff) r1 e2 fun u F2 H2 g2 r2 => c u F2 H2 (g1.trans g2.gr) (ok1.gp g2) r2
  · cases e
/-! slices -/
def rdO (K : PySem.W.Frag) (h : Hd) (F0 H0 : Hp) (m : EM (Option Int)) : TO := fun σ H Q => ∃ F env s o s', Ok K h F0 H0 σ H F env s ∧ m env s = some (o, s') ∧ ∀ F' H', Gr h F H F' H' → Ok K h F0 H0 σ H' F' env s' → Q o H'
def moN : EM (Option Int) := fun _ s => some (none, s)
def moI (m : EM D) : EM (Option Int) := fun env s => (m env s).bind fun p => match p.1 with
  | .int i => some (some i, p.2)
  | _ => none
theorem po_w {e : Option Expr} {t u : TO} (k : PO X e t) (w : ∀ σ H Q, u σ H Q → t σ H Q) : PO X e u := ⟨fun pins s σ H Q I q => k.run pins s σ H Q I (w σ H Q q)⟩
theorem o_none : PO X none (rdO X.K h F0 H0 moN) := po_w po_none fun σ H Q q => by
  obtain ⟨F, env, s, d, s', ok, e, c⟩ := q
  cases e
  exact c F H (.refl ok.fh) ok
theorem o_some {e : Expr} {m : EM D} (k : PE X e (rdE X.K h F0 H0 m)) : PO X (some e) (rdO X.K h F0 H0 (moI m)) := po_w (po_some k) fun σ H Q q => by
  obtain ⟨F, env, s, d, s', ok, e, c⟩ := q
  obtain ⟨⟨d1, s1⟩, e1, e⟩ := bind_some' e
  dsimp only at e
  split at e
  · cases e
    exact ⟨F, env, s, _, _, ok, e1, fun v F1 H1 g1 ok1 r1 => by
      cases r1
      exact ⟨_, rfl, c F1 H1 g1 ok1⟩⟩
  · cases e
theorem repInts {K : PySem.W.Frag} {F : Hp} : ∀ ns : List Int, RepL K h F (ns.map V.int) (ns.map PyData.int)
  | [] => .nil
  | n :: ns => .cons (.int n) (repInts ns)
def cutD {α : Type} (xs : List α) (lo hi : Option Int) : List α := (xs.drop (HT.sIx xs.length 0 lo)).take (HT.sIx xs.length xs.length hi - HT.sIx xs.length 0 lo)
theorem RepL.cut {K : PySem.W.Frag} {F : Hp} {vs : List V} {ds : List D} (r : RepL K h F vs ds) (lo hi : Option Int) : RepL K h F (cutV vs lo hi) (cutD ds lo hi) := by
  unfold cutV cutD
  rw [r.len]
  exact (r.drop _).take _
def mSl (a : EM D) (lo hi : EM (Option Int)) : EM D := fun env s => (a env s).bind fun p => (lo env p.2).bind fun q => (hi env q.2).bind fun r => match p.1 with
  | .list ds => some (.list (cutD ds q.1 r.1), r.2)
  | .tuple ds => some (.tuple (cutD ds q.1 r.1), r.2)
  | .dict [(.none, .list ds)] => some (.list (cutD ds q.1 r.1), r.2)
  | _ => none
theorem cut_whole {α : Type} {xs : List α} {lo hi : Option Int} (w : HT.sIx xs.length 0 lo = 0 ∧ HT.sIx xs.length xs.length hi = xs.length) : cutD xs lo hi = xs := by
  unfold cutD
  rw [w.1, w.2, List.drop_zero, Nat.sub_zero, List.take_length]
theorem d_sl {a : Expr} {lo hi : Option Expr} {p2 pos : Pos} {ma : EM D} {ml mh : EM (Option Int)} (ka : PE X a (rdE X.K h F0 H0 ma)) (kl : PO X lo (rdO X.K h F0 H0 ml)) (kh : PO X hi (rdO X.K h F0 H0 mh)) :
    PE X (.Subscript a (.Slice lo hi none p2) pos) (rdE X.K h F0 H0 (mSl ma ml mh)) := pe_w (pe_slice ((sl_list).or sl_tupA) ka kl kh) fun σ H Q q => by
  obtain ⟨F, env, s, d, s', ok, e, c⟩ := q
  obtain ⟨⟨d1, s1⟩, e1, e⟩ := bind_some' e
  obtain ⟨⟨l, s2⟩, e2, e⟩ := bind_some' e
  obtain ⟨⟨u, s3⟩, e3, e⟩ := bind_some' e
  refine ⟨F, env, s, d1, s1, ok, e1, fun v F1 H1 g1 ok1 r1 => ⟨F1, env, s1, l, s2, ok1, e2, fun F2 H2 g2 ok2 => ⟨F2, env, s2, u, s3, ok2, e3, fun F3 H3 g3 ok3 => ?_⟩⟩⟩
  have r3 := (r1.up g2.ff).up g3.ff
  have g13 := (g1.trans g2).trans g3
  dsimp only at e
  split at e
  · cases e
    cases r3 with
    | lst a q =>
      exact .inl ⟨_, _, rfl, .of (ok3.fh _ _ a), fun p np => k_lst ok3.fh np (fun u F' H' g r => c u F' H' (g13.trans g.gr) (ok3.gp g) r) (q.cut l u)⟩
  · cases e
    cases r3 with
    | tup a q =>
      refine .inr ⟨_, _, rfl, sq_t ok3.fh a, fun hw => ?_, fun _ p np => k_tup ok3.fh np (fun u F' H' g r => c u F' H' (g13.trans g.gr) (ok3.gp g) r) (q.cut l u)⟩
      rw [q.len] at hw
      rw [cut_whole hw] at c
      exact c _ F3 H3 g13 ok3 (.tup a q)
  · cases e
    cases r3 with
    | @sq a ns sq =>
      exact .inl ⟨_, _, rfl, sq_l ok3.fh sq, fun p np => k_lst ok3.fh np (fun u F' H' g r => c u F' H' (g13.trans g.gr) (ok3.gp g) r) ((repInts (h := h) (F := F3) ns).cut l u)⟩
  · cases e
/-! isinstance(x, T), T a built-in class -/
def tyN : D → Option String
  | .none => some "NoneType"
  | .bool _ => some "bool"
  | .int _ => some "int"
  | .str _ => some "str"
  | .list _ => some "list"
  | .tuple _ => some "tuple"
  | .dict _ => none
def mIsi (T : String) (m : EM D) : EM D := fun env s => (m env s).bind fun p => (tyN p.1).bind fun t => (kitB t T).bind fun b => some (.bool b, p.2)
theorem Rep.ty {K : PySem.W.Frag} {F H : Hp} {v : V} {d : D} {t : String} (sm : Same F H) (r : Rep K h F v d) (e : tyN d = some t) : TyX K H v (.type t) := by
  cases r with
  | non =>
    cases e
    exact .base .non
  | bl b =>
    cases e
    exact .base (.bl b)
  | int i =>
    cases e
    exact .base (.int i)
  | str x =>
    cases e
    exact .base (.str x)
  | lst a q =>
    cases e
    exact .base (.lst (sm _ _ a))
  | tup a q =>
    cases e
    rcases a with (a | ⟨o, a⟩) | ⟨o, its, n, hk, hc, _⟩
    · exact .base (.tup (sm _ _ a))
    · exact .fTuple (sm _ _ a)
    · exact .kTuple hk hc
  | hn _ => cases e
  | sq _ => cases e
theorem d_isi {T : Str} {Tn : String} {a : Expr} {p p2 pos : Pos} {m : EM D} (hg : Gl X "isinstance") (hm : X.mg "isinstance" = none) (hv : bootBuiltins "isinstance" = some (.builtin "isinstance")) (hgT : Gl X T) (hmT : X.mg T = none) (hvT : bootBuiltins T = some (.type Tn)) (k : PE X a (rdE X.K h F0 H0 m))
    (hnT : T ≠ "__name__" := by decide) (hdT : (T == ("__debug__" : Str)) = false := by decide) (he : starEach [a, .Name T p2] X.env = (false, eval a X.env) :: starEach [.Name T p2] X.env := by rfl) (hpl : (backTo pos (starEach [.Name T p2] X.env)).any (·.1) = false := by rfl) :
    PE X (.Call (.Name "isinstance" p) [a, .Name T p2] [] pos) (rdE X.K h F0 H0 (mIsi Tn m)) :=
  pe_w (pe_callB call_isi hg hm hv (pa_cons k (pa_cons (pe_bltn (v := .ty Tn) hgT hmT hvT rfl hnT hdT) pa_nil) he) (by decide) (by decide) he hpl) fun σ H Q q => by
    obtain ⟨F, env, s, d, s', ok, e, c⟩ := q
    obtain ⟨⟨d1, s1⟩, e1, e⟩ := bind_some' e
    obtain ⟨t, e2, e⟩ := bind_some' e
    obtain ⟨b, e3, e⟩ := bind_some' e
    cases e
    refine ⟨F, env, s, d1, _, ok, e1, fun v F1 H1 g1 ok1 r1 => ⟨v, .ty Tn, .type t, .type Tn, b, rfl, .ty Tn, r1.ty ok1.fh e2, kit_ty e3, c _ F1 H1 g1 ok1 (.bl b)⟩⟩
end
end DL
set_option Elab.async false
set_option linter.all false
set_option maxRecDepth 100000
set_option maxHeartbeats 4000000
/-! DL, part 7: enumerate, zip, + and * of lists as new lists, calls with keywords. -/
namespace DL
open PySem PySem.Spec PyProof.Rows L2
section
variable {X : Cx} {h : Hd} {F0 H0 : Hp}
/-! ### enumerate, zip -/
def enD : Nat → List D → List D
  | _, [] => []
  | i, d :: ds => .tuple [.int (i : Nat), d] :: enD (i + 1) ds
theorem enD_len : ∀ (i : Nat) (ds : List D), (enD i ds).length = ds.length
  | _, [] => rfl
  | i, d :: ds => by
    show (enD (i + 1) ds).length + 1 = ds.length + 1
    rw [enD_len]
theorem enD_get : ∀ (k : Nat) (ds : List D) (i : Nat) (d : D), (enD k ds)[i]? = some d → ∃ e, ds[i]? = some e ∧ d = .tuple [.int ((k + i : Nat) : Int), e]
  | _, [], i, d, e => by simp [enD] at e
  | k, a :: ds, 0, d, e => by
    have e' : PyData.tuple [.int (k : Nat), a] = d := Option.some.inj e
    exact ⟨a, rfl, e'.symm⟩
  | k, a :: ds, i + 1, d, e => by
    obtain ⟨b, h1, h2⟩ := enD_get (k + 1) ds i d e
    exact ⟨b, h1, by rw [h2]; congr 3; omega⟩
def mEnum (m : EM (List D)) : EM (List D) := fun env s => (m env s).bind fun p => match p.1 with
  | [.list ds] => some (enD 0 ds, p.2)
  | _ => none
theorem yl_en {K : PySem.W.Frag} {a : Addr} {vs : List V} {ds : List D} {F1 : Hp} (e : F1 a = some (.lst vs)) (r : RepL K h F1 vs ds) : Yields K h (Ite K a) F1 (enD 0 ds) := by
  have g : ∀ {F H : Hp}, Same F1 F → Same F H → SqL K H a vs := fun s1 s2 => .of (s2 _ _ (s1 _ _ e))
  refine ⟨fun i F H d s1 s2 ed => ?_, fun i F H s1 s2 hl => ⟨vs, g s1 s2, by rw [r.len]; rw [enD_len] at hl; exact hl⟩⟩
  obtain ⟨d2, ed2, rfl⟩ := enD_get 0 ds i d ed
  obtain ⟨v, ev, rv⟩ := r.get ed2
  refine ⟨⟨vs, v, g s1 s2, ev⟩, fun x H' y => ?_⟩
  obtain ⟨T, x2, rfl, nT, rfl, y⟩ := y
  have ex := y vs (g s1 s2)
  rw [ev] at ex
  cases ex
  have gp : Gp F H (upd F T (.tup [.int (i : Nat), v])) (upd H T (.tup [.int (i : Nat), v])) := .new s2 nT
  exact ⟨_, gp, .tup (.inl (.inl upd_same)) (.cons (by rw [Nat.zero_add]; exact .int _) (.cons (rv.up (s1.trans gp.ff)) .nil))⟩
theorem i_enum {e : Expr} {p pos tpos : Pos} {elts : List Expr} {kk : Nat} {m : EM (List D)} (hg : Gl X "enumerate") (hm : X.mg "enumerate" = none) (ka : PA X [e] (rdA X.K h F0 H0 m)) (hs : starEach [e] X.env = [(false, eval e X.env)] := by rfl) :
    PI X (.Tuple elts kk tpos) (.Call (.Name "enumerate" p) [e] [] pos) (rdI X.K h F0 H0 (mEnum m)) := pi_w (pi_enum hg hm ka hs) fun σ H R q => by
  obtain ⟨F, env, s, ds, s', ok, e, c⟩ := q
  obtain ⟨⟨d1, s1⟩, e1, e⟩ := bind_some' e
  refine ⟨F, env, s, d1, s1, ok, e1, fun vs F1 H1 g1 ok1 r1 => ?_⟩
  dsimp only at e
  split at e
  · cases e
    cases r1 with
    | cons ra rb =>
      cases rb
      cases ra with
      | lst a r => exact ⟨_, _, rfl, .of (ok1.fh _ _ a), c _ F1 H1 g1 ok1 (yl_en a r)⟩
  · cases e
def zpD : List D → List D → List D
  | d :: ds, e :: es => .tuple [d, e] :: zpD ds es
  | _, _ => []
theorem zpD_len : ∀ (ds es : List D), (zpD ds es).length = min ds.length es.length
  | [], _ => by simp [zpD]
  | _ :: _, [] => by simp [zpD]
  | d :: ds, e :: es => by
    show (zpD ds es).length + 1 = min (ds.length + 1) (es.length + 1)
    rw [zpD_len]
    omega
theorem zpD_get : ∀ (ds es : List D) (i : Nat) (d : D), (zpD ds es)[i]? = some d → ∃ a b, ds[i]? = some a ∧ es[i]? = some b ∧ d = .tuple [a, b]
  | [], _, i, d, e => by simp [zpD] at e
  | _ :: _, [], i, d, e => by simp [zpD] at e
  | a :: ds, b :: es, 0, d, e => ⟨a, b, rfl, rfl, (Option.some.inj e).symm⟩
  | a :: ds, b :: es, i + 1, d, e => zpD_get ds es i d e
def mZip (m : EM (List D)) : EM (List D) := fun env s => (m env s).bind fun p => match p.1 with
  | [.list ds, .list es] => some (zpD ds es, p.2)
  | _ => none
theorem yl_zip {K : PySem.W.Frag} {a b : Addr} {vs ws : List V} {ds es : List D} {F1 : Hp} (e : F1 a = some (.lst vs)) (r : RepL K h F1 vs ds) (e2 : F1 b = some (.lst ws)) (r2 : RepL K h F1 ws es) : Yields K h (Itz K a b) F1 (zpD ds es) := by
  have g : ∀ {F H : Hp}, Same F1 F → Same F H → SqL K H a vs := fun s1 s2 => .of (s2 _ _ (s1 _ _ e))
  have g2 : ∀ {F H : Hp}, Same F1 F → Same F H → SqL K H b ws := fun s1 s2 => .of (s2 _ _ (s1 _ _ e2))
  refine ⟨fun i F H d s1 s2 ed => ?_, fun i F H s1 s2 hl => ⟨vs, ws, g s1 s2, g2 s1 s2, by rw [r.len, r2.len]; rw [zpD_len] at hl; omega⟩⟩
  obtain ⟨d2, d3, ed2, ed3, rfl⟩ := zpD_get ds es i d ed
  obtain ⟨v, ev, rv⟩ := r.get ed2
  obtain ⟨u, eu, ru⟩ := r2.get ed3
  refine ⟨⟨vs, ws, v, u, g s1 s2, g2 s1 s2, ev, eu⟩, fun x H' y => ?_⟩
  obtain ⟨T, x2, y2, rfl, nT, rfl, y, y'⟩ := y
  have ex := y vs (g s1 s2)
  have ex2 := y' ws (g2 s1 s2)
  rw [ev] at ex
  rw [eu] at ex2
  cases ex
  cases ex2
  have gp : Gp F H (upd F T (.tup [v, u])) (upd H T (.tup [v, u])) := .new s2 nT
  exact ⟨_, gp, .tup (.inl (.inl upd_same)) (.cons (rv.up (s1.trans gp.ff)) (.cons (ru.up (s1.trans gp.ff)) .nil))⟩
theorem i_zip {e e2 : Expr} {p pos tpos : Pos} {elts : List Expr} {kk : Nat} {m : EM (List D)} (hg : Gl X "zip") (hm : X.mg "zip" = none) (ka : PA X [e, e2] (rdA X.K h F0 H0 m)) (hs : starEach [e, e2] X.env = (false, eval e X.env) :: starEach [e2] X.env := by rfl)
    (hpl : (backTo pos (starEach [e2] X.env)).any (·.1) = false := by rfl) : PI X (.Tuple elts kk tpos) (.Call (.Name "zip" p) [e, e2] [] pos) (rdI X.K h F0 H0 (mZip m)) := pi_w (pi_zip hg hm ka hs hpl) fun σ H R q => by
  obtain ⟨F, env, s, ds, s', ok, e, c⟩ := q
  obtain ⟨⟨d1, s1⟩, e1, e⟩ := bind_some' e
  refine ⟨F, env, s, d1, s1, ok, e1, fun vs F1 H1 g1 ok1 r1 => ?_⟩
  dsimp only at e
  split at e
  · cases e
    cases r1 with
    | cons ra rb =>
      cases rb with
      | cons rb rc =>
        cases rc
        cases ra with
        | lst a r =>
          cases rb with
          | lst b r' => exact ⟨_, _, _, _, rfl, .of (ok1.fh _ _ a), .of (ok1.fh _ _ b), c _ F1 H1 g1 ok1 (yl_zip a r b r')⟩
  · cases e

/-! ### new lists by + and * -/
def mCatL (a b : EM D) : EM (List D) := fun env s => (a env s).bind fun p => (b env p.2).bind fun q => match p.1, q.1 with
  | .list xs, .list ys => if xs.length + ys.length ≤ 1000000 then some (xs ++ ys, q.2) else none
  | _, _ => none
def mRepL (a b : EM D) : EM (List D) := fun env s => (a env s).bind fun p => (b env p.2).bind fun q => match p.1, q.1 with
  | .list xs, .int k => if decide (-(2 ^ 63) ≤ k ∧ k < 2 ^ 63) && decide (xs.length * k.toNat ≤ 1000000) then some ((List.replicate k.toNat xs).flatten, q.2) else none
  | _, _ => none
theorem fresh_of {F H F1 H1 : Hp} (g1 : Gr h F H F1 H1) {p : Addr} (np : H1 p = none) : H p = none := by
  cases q : H p with
  | none => rfl
  | some o => exact absurd np (g1.st p (by rw [q]; exact fun z => nomatch z))
theorem fin_own {F H F2 H2 : Hp} {σ : L2.St} {env : Env} {s' : S} {p : Addr} {vs : List V} {ds : List D} {Q : VK} (c : ∀ p vs F' H', H p = none → F' p = none → H' p = some (.lst vs) → RepL X.K h F' vs ds → Gr h F H F' H' → Ok X.K h F0 H0 σ H' F' env s' → Q (.ref p) H')
    (g : Gr h F H F2 H2) (ok2 : Ok X.K h F0 H0 σ H2 F2 env s') (np : H2 p = none) (r : RepL X.K h F2 vs ds) : Q (.ref p) (upd H2 p (.lst vs)) :=
  have gp : Gp F2 H2 F2 (upd H2 p (.lst vs)) := .own ok2.fh np
  c p vs F2 _ (fresh_of g np) (ok2.fh.free np) upd_same r (g.trans gp.gr) (ok2.gp gp)
theorem d_catL {a b : Expr} {pos : Pos} {ma mb : EM D} (ka : PE X a (rdE X.K h F0 H0 ma)) (kb : PE X b (rdE X.K h F0 H0 mb)) : PE X (.BinOp a .Add b pos) (rdL X.K h F0 H0 (mCatL ma mb)) := pe_w (pe_op op_cat ka kb) fun σ H Q q => by
  obtain ⟨F, env, s, d, s', ok, e, c⟩ := q
  obtain ⟨⟨d1, s1⟩, e1, e⟩ := bind_some' e
  obtain ⟨⟨d2, s2⟩, e2, e⟩ := bind_some' e
  refine ⟨F, env, s, d1, s1, ok, e1, fun v F1 H1 g1 ok1 r1 => ⟨F1, env, s1, d2, s2, ok1, e2, fun u F2 H2 g2 ok2 r2 => ?_⟩⟩
  dsimp only at e
  split at e
  · split at e
    · rename_i hl
      cases e
      have r1' := r1.up g2.ff
      cases r1' with
      | lst a1 q1 =>
        cases r2 with
        | lst a2 q2 =>
          refine ⟨_, _, _, _, rfl, rfl, ok2.fh _ _ a1, ok2.fh _ _ a2, by rw [q1.len, q2.len]; exact leM hl, fun p np => fin_own c (g1.trans g2) ok2 np (q1.append q2)⟩
    · cases e
  · cases e
theorem d_repL {a b : Expr} {pos : Pos} {ma mb : EM D} (ka : PE X a (rdE X.K h F0 H0 ma)) (kb : PE X b (rdE X.K h F0 H0 mb)) : PE X (.BinOp a .Mult b pos) (rdL X.K h F0 H0 (mRepL ma mb)) := pe_w (pe_op op_rep ka kb) fun σ H Q q => by
  obtain ⟨F, env, s, d, s', ok, e, c⟩ := q
  obtain ⟨⟨d1, s1⟩, e1, e⟩ := bind_some' e
  obtain ⟨⟨d2, s2⟩, e2, e⟩ := bind_some' e
  refine ⟨F, env, s, d1, s1, ok, e1, fun v F1 H1 g1 ok1 r1 => ⟨F1, env, s1, d2, s2, ok1, e2, fun u F2 H2 g2 ok2 r2 => ?_⟩⟩
  dsimp only at e
  split at e
  · split at e
    · rename_i hl
      cases e
      obtain ⟨h1, h2⟩ := Bool.and_eq_true_iff.mp hl
      have h3 := of_decide_eq_true h1
      have h4 := of_decide_eq_true h2
      have r1' := r1.up g2.ff
      cases r2
      cases r1' with
      | lst a1 q1 =>
        refine ⟨_, _, _, rfl, rfl, ok2.fh _ _ a1, h3.1, h3.2, by rw [q1.len]; exact leM h4, fun p np => fin_own c (g1.trans g2) ok2 np (q1.rep _)⟩
    · cases e
  · cases e

/-! ### calls with keywords -/
def rdK (K : PySem.W.Frag) (h : Hd) (F0 H0 : Hp) (m : EM (List D)) : TA := rdA K h F0 H0 m
theorem pk_w {kws : List Keyword} {t u : TA} (k : PK X kws t) (w : ∀ σ H Q, u σ H Q → t σ H Q) : PK X kws u := ⟨fun pos pins s σ H Q I q => k.run pos pins s σ H Q I (w σ H Q q)⟩
theorem k_nil : PK X [] (rdA X.K h F0 H0 mNil) := pk_w pk_nil fun σ H Q q => by
  obtain ⟨F, env, s, d, s', ok, e, c⟩ := q
  cases e
  exact c [] F H (.refl ok.fh) ok .nil
theorem k_cons {e : Expr} {nm : Option Str} {kpos : Pos} {kws : List Keyword} {m : EM D} {ms : EM (List D)} (k : PE X e (rdE X.K h F0 H0 m)) (ks : PK X kws (rdA X.K h F0 H0 ms)) : PK X (⟨nm, e, kpos⟩ :: kws) (rdA X.K h F0 H0 (mCons m ms)) := pk_w (pk_cons k ks) fun σ H Q q => by
  obtain ⟨F, env, s, d, s', ok, e, c⟩ := q
  obtain ⟨⟨d1, s1⟩, e1, e⟩ := bind_some' e
  obtain ⟨⟨ds, s2⟩, e2, e⟩ := bind_some' e
  cases e
  refine ⟨F, env, s, d1, s1, ok, e1, fun v F1 H1 g1 ok1 r1 => ⟨F1, env, s1, ds, s2, ok1, e2, fun vs F2 H2 g2 ok2 r2 => ?_⟩⟩
  exact c _ F2 H2 (g1.trans g2) ok2 (.cons (r1.up g2.ff) r2)
/-- f(.., k = ..): g puts the values in the parameters' order -/
structure Gk (g : {α : Type} → List α → List α → List α) : Prop where
  rep : ∀ {K : PySem.W.Frag} {h : Hd} {F : Hp} {vs zs : List V} {ds es : List D}, RepL K h F vs ds → RepL K h F zs es → RepL K h F (g vs zs) (g ds es)
  val : ∀ {vs zs : List V} {us ws : List Value}, Vals vs us → Vals zs ws → Vals (g vs zs) (g us ws)
def gIn {α : Type} (xs ys : List α) : List α := xs ++ ys
theorem gk_in : Gk gIn := ⟨fun r q => r.append q, fun r q => r.append q⟩
/-- no positional argument, two keywords the other way round -/
def gSw {α : Type} (xs ys : List α) : List α := match ys with
  | [a, b] => xs ++ [b, a]
  | ys => xs ++ ys
theorem gk_sw : Gk gSw := ⟨fun r q => by
    cases q with
    | nil => exact r.append .nil
    | cons a q =>
      cases q with
      | nil => exact r.append (.cons a .nil)
      | cons b q =>
        cases q with
        | nil => exact r.append (.cons b (.cons a .nil))
        | cons c q => exact r.append (.cons a (.cons b (.cons c q))), fun r q => by
    cases q with
    | nil => exact r.append .nil
    | cons a q =>
      cases q with
      | nil => exact r.append (.cons a .nil)
      | cons b q =>
        cases q with
        | nil => exact r.append (.cons b (.cons a .nil))
        | cons c q => exact r.append (.cons a (.cons b (.cons c q)))⟩
def mCallK (n m : Nat) (g : {α : Type} → List α → List α → List α) (φ : Fn) (ma mk : EM (List D)) : EM D := fun env s => (ma env s).bind fun p => (mk env p.2).bind fun q => if p.1.length = n ∧ q.1.length = m then φ (g p.1 q.1) q.2 else none
/-- a def as it is called with keywords -/
structure Fk (P : Program) (w : World) (K : PySem.W.Frag) (mg : Str → Option Value) (base : Heap) (k : Nat) (x : Str) (n : Nat) (ks : List Str) (g : {α : Type} → List α → List α → List α) (φ : Fn) : Prop where
  ex : ∃ (f : Addr) (fd : FuncData) (ps : List Str), FnOk P w K mg base CX0 k f fd ps (spD K φ) ∧ mg x = some (.ref f) ∧ PySem.W.keepIn K (.ref f) = true ∧ KBn K fd ps n ks (fun us ws => g us ws) (fun vs zs => g vs zs)
theorem w_callK {φ : Fn} {n m : Nat} {g : {α : Type} → List α → List α → List α} (G : Gk g) {ma mk : EM (List D)} : ∀ σ H Q, rdE X.K h F0 H0 (mCallK n m g φ ma mk) σ H Q → tCallN n m (spD X.K φ) (fun vs zs => g vs zs) E0 (rdA X.K h F0 H0 ma) (rdA X.K h F0 H0 mk) σ H Q := fun σ H Q q => by
  obtain ⟨F, env, s, d, s', ok, e, c⟩ := q
  obtain ⟨⟨ds, s1⟩, e1, e⟩ := bind_some' e
  obtain ⟨⟨es, s2⟩, e2, e⟩ := bind_some' e
  dsimp only at e
  split at e
  · rename_i hl
    refine ⟨F, env, s, ds, s1, ok, e1, fun vs F1 H1 g1 ok1 r1 => ⟨F1, env, s1, es, s2, ok1, e2, fun zs F2 H2 g2 ok2 r2 => ⟨by rw [r1.len]; exact hl.1, by rw [r2.len]; exact hl.2, ?_⟩⟩⟩
    exact ⟨h, F2, g ds es, s2, d, s', ok2.fh, ok2.hd, G.rep (r1.up g2.ff) r2, e, fun v F3 H3 g3 hd3 r3 => c v F3 H3 ((g1.trans g2).trans g3) (ok2.grow g3 hd3) r3⟩
  · cases e
theorem d_callK {x : Str} {e : Expr} {es : List Expr} {kws : List Keyword} {p pos : Pos} {k n : Nat} {ks : List Str} {g : {α : Type} → List α → List α → List α} {φ : Fn} {ma mk : EM (List D)} (c : Fk X.prog X.w X.K X.mg X.base k x n ks g φ) (G : Gk g) (hr : Room k X.A) (hg : Gl X x)
    (ka : PA X (e :: es) (rdA X.K h F0 H0 ma)) (kk : PK X kws (rdA X.K h F0 H0 mk)) (hall : (backToKw pos (keywordEach kws X.env)).all (·.1.isSome) = true := by rfl) (hks : (backToKw pos (keywordEach kws X.env)).filterMap (·.1) = ks := by rfl)
    (hdb : (x == ("__debug__" : Str)) = false := by decide) (he : starEach (e :: es) X.env = (false, eval e X.env) :: starEach es X.env := by rfl)
    (hpl : ((backTo pos (starEach (e :: es) X.env)).any (·.1) || (backToKw pos (keywordEach kws X.env)).any (·.1.isNone)) = false := by rfl) :
    PE X (.Call (.Name x p) (e :: es) kws pos) (rdE X.K h F0 H0 (mCallK n ks.length g φ ma mk)) := by
  obtain ⟨f, fd, ps, F, hm, hk, hb⟩ := c.ex
  exact pe_w (pe_callN F hr hg hm hk hb pass0 ka kk hall hks hdb he hpl) (w_callK G)
theorem d_callK0 {x : Str} {kws : List Keyword} {p pos : Pos} {k : Nat} {ks : List Str} {g : {α : Type} → List α → List α → List α} {φ : Fn} {mk : EM (List D)} (c : Fk X.prog X.w X.K X.mg X.base k x 0 ks g φ) (G : Gk g) (hr : Room k X.A) (hg : Gl X x)
    (kk : PK X kws (rdA X.K h F0 H0 mk)) (hall : (backToKw pos (keywordEach kws X.env)).all (·.1.isSome) = true := by rfl) (hks : (backToKw pos (keywordEach kws X.env)).filterMap (·.1) = ks := by rfl) (hdb : (x == ("__debug__" : Str)) = false := by decide)
    (hpl : ((backTo pos (starEach [] X.env)).any (·.1) || (backToKw pos (keywordEach kws X.env)).any (·.1.isNone)) = false := by rfl) :
    PE X (.Call (.Name x p) [] kws pos) (rdE X.K h F0 H0 (mCallK 0 ks.length g φ mNil mk)) := by
  obtain ⟨f, fd, ps, F, hm, hk, hb⟩ := c.ex
  have k0 : PE X (.Call (.Name x p) [] kws pos) (tCallN 0 ks.length (spD X.K φ) (fun vs zs => g vs zs) E0 tNil (rdA X.K h F0 H0 mk)) := ⟨fun pins s σ H Q I q => by
    refine wpAny_Call_Name_kw (ld_glob I hg hm ?_ hdb)
    refine PySem.W.callWith_KW0 (h₀ := X.base) I.ok.mod.kin hk hall ?_ hpl
    refine thn (kk.run pos pins s σ H _ I q) fun ws s2 ⟨zs, H2, I2, rz, l1, l2, q2⟩ => ⟨I2.kIn, ?_⟩
    rw [hks]
    exact run_fnN (us := []) (vs := []) F hr hb pass0 I2 .nil rz rfl l2 q2⟩
  refine pe_w k0 fun σ H Q q => ?_
  obtain ⟨F', env, s, d, s', ok, e, c⟩ := w_callK G σ H Q q
  cases e
  exact c [] F' H (.refl ok.fh) ok .nil
end
theorem kbn_of {K : PySem.W.Frag} {x qual : Str} {params : Arguments} {body : List Stmt} {scope : Scope} {f : Addr} {fd : FuncData} {ps ks : List Str} {n : Nat} {g : {α : Type} → List α → List α → List α} (F : FunD K x qual params body scope [] [] f fd) (G : Gk g)
    (h : ∀ (kV doc pm : Value) (an : Option Addr) (cdv ct : Value) (us ws : List Value), us.length = n → ws.length = ks.length → bindArgs (PySem.W.fnOf x qual params body scope .none kV doc pm an cdv ct) ⟨us, ks.zip ws⟩ = pure (ps.zip (g us ws))) :
    KBn K fd ps n ks (fun us ws => g us ws) (fun vs zs => g vs zs) := by
  obtain ⟨oc, od, dV, kV, doc, pm, an, cdv, ct, osl, rfl, lk, hcd, hD, hK⟩ := F.ex
  rcases hD with ⟨_, rfl⟩ | ⟨e, _⟩
  · exact ⟨fun s us ws _ l1 l2 => .of_eq (h kV doc pm an cdv ct us ws l1 l2), G.val⟩
  · exact absurd rfl e
end DL
set_option Elab.async false
set_option linter.all false
set_option maxRecDepth 100000
set_option maxHeartbeats 4000000
/-! DL, part 8: raising. -/
namespace DL
open PySem PySem.Spec PyProof.Rows L2
abbrev FnR := List D → S → Option (Str × D × S)
def spR (K : PySem.W.Frag) (mg : Str → Option Value) (ψ : FnR) : Sp := fun vs H _ E => ∃ (h : Hd) (F : Hp) (ds : List D) (s : S) (c : Str) (d : D) (s' : S), Same F H ∧ HdOk h F H s ∧ RepL K h F vs ds ∧ ψ ds s = some (c, d, s') ∧
  ∀ (C dd : Addr) v F' H', mg c = some (.ref C) → Gr h F H F' H' → HdOk h F' H' s' → Rep K h F' v d → H' dd = some (.xd [("at", v)]) → E (.ref C) (some dd) H'
def mFunR (n N : Nat) (b : SM) : FnR := fun ds s => if ds.length = n then (b (ds.map .im ++ List.replicate (N - n) .un) s).bind fun o => match o with
  | .er c d _ s1 => some (c, d, s1)
  | _ => none else none
theorem fn_okR {P : Program} {w : World} {K : PySem.W.Frag} {mg : Str → Option Value} {base : Heap} {x qual : Str} {params : Arguments} {body : List Stmt} {scope : Scope} {dvs : List V} {kws : List (Str × V)} {f : Addr} {fd : FuncData} {N ps : List Str} {k : Nat} {m : SM}
    (F : FunD K x qual params body scope dvs kws f fd) (Sc : FnScope N ps scope) (hl : ps.length ≤ N.length)
    (hb : ∀ (h : Hd) (F0 H0 : Hp) (cdv : Value) (A : Around) (outer : List PySem.Env) (s : Shared) (H : Hp) (E : XK), Room k (A.deeper (envOfC qual scope s.heap.objs.size f cdv)) →
      PSs (cxOf (L2.CX P w) P w K mg base N qual scope f cdv A outer s H E) body (rdS K h F0 H0 mg (fun cls d _ H => E cls d H) m)) : FnOk P w K mg base (L2.CX P w) (k + 1) f fd ps (spR K mg (mFunR ps.length N.length m)) := by
  have hlen : ∀ (φ : Str × D × S) (ds : List D) (s : S), mFunR ps.length N.length m ds s = some φ → ds.length = ps.length := fun φ ds s e => by
    unfold mFunR at e
    split at e
    · assumption
    · cases e
  refine F.ok Sc (fun vs H Q E q => ?_) (fun cdv A outer s H vs Q E hr q => ?_)
  · obtain ⟨h, F, ds, s, c, d, s', _, _, r, e, _⟩ := q
    rw [r.len]
    exact hlen _ _ _ e
  · obtain ⟨h, F0, ds, s0, c, d, s', sm, hd, r, e, cc⟩ := q
    have el := hlen _ _ _ e
    unfold mFunR at e
    rw [if_pos el] at e
    obtain ⟨o, e1, e2⟩ := bind_some' e
    refine ⟨_, hb h F0 H cdv A outer s H E hr, F0, _, s0, o, ok_start hl sm hd r el, e1, ?_⟩
    cases o with
    | nx _ _ => cases e2
    | rt _ _ => cases e2
    | bk _ _ => cases e2
    | ct _ _ => cases e2
    | er n d env s1 =>
      cases e2
      exact fun C dd v σ H1 F1 _ em ok1 rv hx => cc C dd v F1 H1 em ok1.gr ok1.hd rv hx

/-! ### raise C(e) -/
theorem Ok.lay {K : PySem.W.Frag} {h : Hd} {F0 H0 F H : Hp} {σ : L2.St} {env : Env} {s : S} {p : Addr} {o : HO} (k : Ok K h F0 H0 σ H F env s) (n : H p = none) : Ok K h F0 H0 σ (upd H p o) F env s :=
  k.gp (Gp.own k.fh n)
def mRaise (c : Str) (m : EM D) : SM := fun env s => (m env s).bind fun p => some (.er c p.1 env p.2)
section
variable {X : Cx} {h : Hd} {F0 H0 : Hp} {W : WX}
theorem s_raise {x : Str} {C fI : Addr} {k : Nat} {fd : FuncData} {m : EM D} {e : Expr} {p pos pos' : Pos} (hc : X.calm = true) (tk : Takes X W) (T : OexC X.K C) (iC : PySem.W.findIn X.K (.ref C) "__init__" = some (some (.ref fI))) (tI : PySem.W.typeIn X.K (.ref fI) = some (.type "function"))
    (F1 : FnOk X.prog X.w X.K X.mg X.base (L2.CX X.prog X.w) k fI fd ["self", "at"] (spX X.K C)) (hr : Room (k + 1) X.A) (hb : Binds X.K fd ["self", "at"] []) (hg : Gl X x) (hm : X.mg x = some (.ref C)) (ke : PE X e (rdE X.K h F0 H0 m))
    (hdb : (x == ("__debug__" : Str)) = false := by decide) (he : starEach [e] X.env = (false, eval e X.env) :: starEach [] X.env := by rfl) (hpl : (backTo pos (starEach [] X.env)).any (·.1) = false := by rfl) :
    PS X (.Raise (some (.Call (.Name x p) [e] [] pos)) none pos') (rdS X.K h F0 H0 X.mg W (mRaise x m)) := ps_w (ps_raise hc tk (pmk_oex T iC tI F1 hr hb .nil passL hg hm (pa_cons ke pa_nil he) hdb he hpl)) fun E σ H q => by
  obtain ⟨F, env, s, o, ok, e, c⟩ := q
  obtain ⟨⟨d, s1⟩, e1, e⟩ := bind_some' e
  cases e
  refine ⟨F, env, s, d, s1, ok, e1, fun v F1 H1 g1 ok1 r1 => ⟨by show 1 ≤ 1000; decide, fun a na => ⟨a, v, rfl, upd_same, fun dx ndx nax => ⟨rfl, dx, [("at", v)], upd_same, ?_, ?_, ?_⟩⟩⟩⟩
  · rw [upd_ne nax, upd_same]
  · rw [upd_ne nax] at ndx
    exact ndx
  · have nd : H1 dx = none := by
      rw [upd_ne nax] at ndx
      exact ndx
    have eh : upd (del (upd (upd (upd H1 a (exo a C none)) dx (exd dx [("at", v)])) a (exo a C (some dx))) a) dx (.xd [("at", v)]) = upd H1 dx (.xd [("at", v)]) := by
      funext b
      by_cases hb : b = dx
      · rw [hb, upd_same, upd_same]
      · rw [upd_ne hb, upd_ne hb]
        by_cases ha : b = a
        · rw [ha, del_same, na]
        · rw [del_ne ha, upd_ne ha, upd_ne hb, upd_ne ha]
    rw [eh]
    exact c C dx v σ _ F1 g1.ff hm (ok1.lay nd) r1 upd_same

/-! ### a call that raises -/
abbrev EE := Env → S → Option (Str × D × S)
def rdR (K : PySem.W.Frag) (h : Hd) (F0 H0 : Hp) (mg : Str → Option Value) (W : WX) (m : EE) : TE := fun σ H _ => ∃ F env s c d s', Ok K h F0 H0 σ H F env s ∧ m env s = some (c, d, s') ∧
  ∀ (C dd : Addr) v F' H', mg c = some (.ref C) → Gr h F H F' H' → Ok K h F0 H0 σ H' F' env s' → Rep K h F' v d → H' dd = some (.xd [("at", v)]) → W (.ref C) (some dd) σ H'
def eCall (ψ : FnR) (ma : EM (List D)) : EE := fun env s => (ma env s).bind fun p => ψ p.1 p.2
def mErr (m : EE) : SM := fun env s => (m env s).bind fun p => some (.er p.1 p.2.1 env p.2.2)
def mOrS (a b : SM) : SM := fun env s => match a env s with
  | some o => some o
  | none => b env s
theorem s_or {st : Stmt} {a b : SM} (ka : PS X st (rdS X.K h F0 H0 X.mg W a)) (kb : PS X st (rdS X.K h F0 H0 X.mg W b)) : PS X st (rdS X.K h F0 H0 X.mg W (mOrS a b)) := ⟨fun pins s σ H E I q => by
  obtain ⟨F, env, s, o, ok, e, c⟩ := q
  unfold mOrS at e
  split at e
  · rename_i o' ea
    cases e
    exact ka.run pins _ σ H E I ⟨F, env, s, _, ok, ea, c⟩
  · exact kb.run pins _ σ H E I ⟨F, env, s, o, ok, e, c⟩⟩
theorem s_exprR {e : Expr} {pos : Pos} {m : EE} (k : PE X e (rdR X.K h F0 H0 X.mg W m)) (hs : swapsWith e none pos.line X.env = pure false := by rfl) : PS X (.Expr e pos) (rdS X.K h F0 H0 X.mg W (mErr m)) := ps_w (ps_expr k hs) fun E σ H q => by
  obtain ⟨F, env, s, o, ok, e, c⟩ := q
  obtain ⟨⟨n, d, s1⟩, e1, e⟩ := bind_some' e
  cases e
  exact ⟨F, env, s, n, d, s1, ok, e1, fun C dd v F' H' em g ok1 rv hx => c C dd v σ H' F' g.ff em ok1 rv hx⟩
theorem s_retR {e : Expr} {pos : Pos} {m : EE} (k : PE X e (rdR X.K h F0 H0 X.mg W m)) : PS X (.Return (some e) pos) (rdS X.K h F0 H0 X.mg W (mErr m)) := ps_w (ps_ret k) fun E σ H q => by
  obtain ⟨F, env, s, o, ok, e, c⟩ := q
  obtain ⟨⟨n, d, s1⟩, e1, e⟩ := bind_some' e
  cases e
  exact ⟨F, env, s, n, d, s1, ok, e1, fun C dd v F' H' em g ok1 rv hx => c C dd v σ H' F' g.ff em ok1 rv hx⟩
structure Fr (P : Program) (w : World) (K : PySem.W.Frag) (mg : Str → Option Value) (base : Heap) (k : Nat) (x : Str) (ψ : FnR) : Prop where
  ex : ∃ (f : Addr) (fd : FuncData) (ps : List Str), FnOk P w K mg base (L2.CX P w) k f fd ps (spR K mg ψ) ∧ mg x = some (.ref f) ∧ PySem.W.keepIn K (.ref f) = true ∧ Binds K fd ps []
theorem w_spR {ψ : FnR} {ds : List D} {vs : List V} {F F1 H1 H : Hp} {σ : L2.St} {env : Env} {s1 s' : S} {c : Str} {d : D} {Q : VK} (g1 : Gr h F H F1 H1) (ok1 : Ok X.K h F0 H0 σ H1 F1 env s1) (r1 : RepL X.K h F1 vs ds) (e : ψ ds s1 = some (c, d, s'))
    (q : ∀ (C dd : Addr) v F' H', X.mg c = some (.ref C) → Gr h F H F' H' → Ok X.K h F0 H0 σ H' F' env s' → Rep X.K h F' v d → H' dd = some (.xd [("at", v)]) → W (.ref C) (some dd) σ H') : spR X.K X.mg ψ vs H1 Q (WE W σ) :=
  ⟨h, F1, ds, s1, c, d, s', ok1.fh, ok1.hd, r1, e, fun C dd v F' H' em g hd2 rv hx => q C dd v F' H' em (g1.trans g) (ok1.grow g hd2) rv hx⟩
theorem r_call {x : Str} {e : Expr} {es : List Expr} {p pos : Pos} {k : Nat} {ψ : FnR} {ma : EM (List D)} (tk : Takes X W) (c : Fr X.prog X.w X.K X.mg X.base k x ψ) (hr : Room k X.A) (hg : Gl X x) (ka : PA X (e :: es) (rdA X.K h F0 H0 ma)) (hdb : (x == ("__debug__" : Str)) = false := by decide)
    (he : starEach (e :: es) X.env = (false, eval e X.env) :: starEach es X.env := by rfl) (hpl : (backTo pos (starEach es X.env)).any (·.1) = false := by rfl) : PE X (.Call (.Name x p) (e :: es) [] pos) (rdR X.K h F0 H0 X.mg W (eCall ψ ma)) := by
  obtain ⟨f, fd, ps, G, hm, hk, hb⟩ := c.ex
  refine pe_w (pe_callS G hr hg hm hk hb (fun σ => passAt tk σ) ka hdb he hpl) fun σ H Q q => ?_
  obtain ⟨F, env, s, c, d, s', ok, e, q⟩ := q
  obtain ⟨⟨ds, s1⟩, e1, e⟩ := bind_some' e
  exact ⟨F, env, s, ds, s1, ok, e1, fun vs F1 H1 g1 ok1 r1 => w_spR g1 ok1 r1 e q⟩
structure FrK (P : Program) (w : World) (K : PySem.W.Frag) (mg : Str → Option Value) (base : Heap) (k : Nat) (x : Str) (n : Nat) (ks : List Str) (g : {α : Type} → List α → List α → List α) (ψ : FnR) : Prop where
  ex : ∃ (f : Addr) (fd : FuncData) (ps : List Str), FnOk P w K mg base (L2.CX P w) k f fd ps (spR K mg ψ) ∧ mg x = some (.ref f) ∧ PySem.W.keepIn K (.ref f) = true ∧ KBn K fd ps n ks (fun us ws => g us ws) (fun vs zs => g vs zs)
def eCallK (n m : Nat) (g : {α : Type} → List α → List α → List α) (ψ : FnR) (ma mk : EM (List D)) : EE := fun env s => (ma env s).bind fun p => (mk env p.2).bind fun q => if p.1.length = n ∧ q.1.length = m then ψ (g p.1 q.1) q.2 else none
theorem run_kR {k n : Nat} {f : Addr} {fd : FuncData} {ps ks : List Str} {g : {α : Type} → List α → List α → List α} {ψ : FnR} {pins : List (Addr × Obj)} {σ : L2.St} {H : Hp} {s : Shared} {Q : VK} {us ws : List Value} {vs zs : List V}
    (F : FnOk X.prog X.w X.K X.mg X.base (L2.CX X.prog X.w) k f fd ps (spR X.K X.mg ψ)) (hr : Room k X.A) (tk : Takes X W) (hb : KBn X.K fd ps n ks (fun us ws => g us ws) (fun vs zs => g vs zs)) (I : Inv X pins σ H s) (r : Vals vs us) (rz : Vals zs ws) (l1 : us.length = n) (l2 : ws.length = ks.length)
    (hsp : spR X.K X.mg ψ (g vs zs) H Q (WE W σ)) : wpAny (model X.prog X.w) X.A (call (.ref f) us (ks.zip ws)) (EP X pins σ Q) X.xe s := by
  refine wpAny_call (codeAny_mono (F.run X.A X.stack s H ⟨us, ks.zip ws⟩ (g us ws) (g vs zs) Q (WE W σ) hr I.env0 (hb.to s us ws I.kIn l1 l2) (hb.rel r rz) hsp) fun r s' hq => ?_)
  cases r with
  | error e => exact passAt tk σ pins H s e s' I hq
  | ok fl =>
    cases fl with
    | ret u => exact I.after hq
    | next => exact False.elim hq
    | brk => exact False.elim hq
    | cont => exact False.elim hq
theorem r_callK {x : Str} {e : Expr} {es : List Expr} {kws : List Keyword} {p pos : Pos} {k n : Nat} {ks : List Str} {g : {α : Type} → List α → List α → List α} {ψ : FnR} {ma mk : EM (List D)} (tk : Takes X W) (c : FrK X.prog X.w X.K X.mg X.base k x n ks g ψ) (G : Gk g) (hr : Room k X.A) (hg : Gl X x)
    (ka : PA X (e :: es) (rdA X.K h F0 H0 ma)) (kk : PK X kws (rdA X.K h F0 H0 mk)) (hall : (backToKw pos (keywordEach kws X.env)).all (·.1.isSome) = true := by rfl) (hks : (backToKw pos (keywordEach kws X.env)).filterMap (·.1) = ks := by rfl)
    (hdb : (x == ("__debug__" : Str)) = false := by decide) (he : starEach (e :: es) X.env = (false, eval e X.env) :: starEach es X.env := by rfl)
    (hpl : ((backTo pos (starEach (e :: es) X.env)).any (·.1) || (backToKw pos (keywordEach kws X.env)).any (·.1.isNone)) = false := by rfl) :
    PE X (.Call (.Name x p) (e :: es) kws pos) (rdR X.K h F0 H0 X.mg W (eCallK n ks.length g ψ ma mk)) := by
  obtain ⟨f, fd, ps, F, hm, hk, hb⟩ := c.ex
  refine ⟨fun pins s σ H Q I q => ?_⟩
  obtain ⟨Fk, env, s0, c, d, s', ok, e0, q⟩ := q
  obtain ⟨⟨ds, s1⟩, e1, e0⟩ := bind_some' e0
  obtain ⟨⟨es', s2⟩, e2, e0⟩ := bind_some' e0
  dsimp only at e0
  split at e0
  · rename_i hl
    refine wpAny_Call_Name_kw (ld_glob I hg hm ?_ hdb)
    refine PySem.W.callWith_KW (h₀ := X.base) I.ok.mod.kin hk hall (thn (ka.run pos pins s σ H (fun vs H1 => ∃ F1, Gr h Fk H F1 H1 ∧ Ok X.K h F0 H0 σ H1 F1 env s1 ∧ RepL X.K h F1 vs ds) I ⟨Fk, env, s0, ds, s1, ok, e1, fun vs F1 H1 g1 ok1 r1 => ⟨F1, g1, ok1, r1⟩⟩) fun us sa ⟨vs, H1, I1, r, F1, g1, ok1, r1⟩ => ?_) hpl he
    refine thn (kk.run pos pins sa σ H1 (fun zs H2 => ∃ F2, Gr h F1 H1 F2 H2 ∧ Ok X.K h F0 H0 σ H2 F2 env s2 ∧ RepL X.K h F2 zs es') I1 ⟨F1, env, s1, es', s2, ok1, e2, fun zs F2 H2 g2 ok2 r2 => ⟨F2, g2, ok2, r2⟩⟩) fun ws sb ⟨zs, H2, I2, rz, F2, g2, ok2, r2⟩ => ⟨I2.kIn, ?_⟩
    rw [hks]
    exact run_kR (Q := Q) F hr tk hb I2 r rz (by show us.length = n; rw [← Paired.length r, r1.len]; exact hl.1) (by rw [← Paired.length rz, r2.len]; exact hl.2) (w_spR (g1.trans g2) ok2 (G.rep (r1.up g2.ff) r2) e0 q)
  · cases e0
end
end DL
set_option Elab.async false
set_option linter.all false
set_option maxRecDepth 100000
set_option maxHeartbeats 4000000
/-! DL, part 9: defs called while an exception is handled; lambdas handed to a def. -/
namespace DL
open PySem PySem.Spec PyProof.Rows L2

/-- a def's promise where an exception may be handled; nothing is let out -/
structure FnA (P : Program) (w : World) (K : PySem.W.Frag) (mg : Str → Option Value) (base : Heap) (k : Nat) (f : Addr) (fd : FuncData) (ps : List Str) (sp : Sp) : Prop where
  len : ∀ vs H Q E, sp vs H Q E → vs.length = ps.length
  run : ∀ (A : Around) (outer : List PySem.Env) (s : Shared) (H : Hp) (ar : Args) (us : List Value) (vs : List V) (Q : VK) (E : XK), L2H.RoomH k A → Env0 P w K mg base A outer s H → BindsTo s fd ar (ps.zip us) → Vals vs us → sp vs H Q E →
    codeAny (model P w) A (.call (.ref f) ar) (CR CX0 outer P w H s Q E) s
def cxA (P : Program) (w : World) (K : PySem.W.Frag) (mg : Str → Option Value) (base : Heap) (N : List Str) (qual : Str) (scope : Scope) (f : Addr) (cd : Value) (A : Around) (outer : List PySem.Env) (s : Shared) (H : Hp) (E : XK) : Cx :=
  { cxOf CX0 P w K mg base N qual scope f cd A outer s H E with calm := false }
theorem fn_ofA {P : Program} {w : World} {K : PySem.W.Frag} {mg : Str → Option Value} {base : Heap} {k : Nat} {f : Addr} {x qual : Str} {prm : Arguments} {bd : List Stmt} {scope : Scope} {fd : FuncData} {dvs : List V} {kws : List (Str × V)}
    {N ps : List Str} {sp : Sp} (F : FunD K x qual prm bd scope dvs kws f fd) (S : FnScope N ps scope) (len : ∀ vs H Q E, sp vs H Q E → vs.length = ps.length)
    (hbody : ∀ (cdv : Value) (A : Around) (outer : List PySem.Env) (s : Shared) (H : Hp) (vs : List V) (Q : VK) (E : XK), L2H.RoomH k (A.deeper (envOfC qual scope s.heap.objs.size f cdv)) → sp vs H Q E →
      ∃ t, PSs (cxA P w K mg base N qual scope f cdv A outer s H E).nox bd t ∧ t { nx := fun _ H' => Q .non H', rt := Q } (start N vs) H) : FnA P w K mg base (k + 1) f fd ps sp := by
  obtain ⟨oc, od, dV, kV, doc, pm, an, cdv, ct, osl, rfl, lk, hcd, _, _⟩ := F.ex
  refine ⟨len, fun A outer s H ar us vs Q E room e0 hb r hsp => ?_⟩
  have up : ∀ b o, base.get? b = some o → s.heap.get? b = some o := fun b o e => (e0.bs b o e).1
  have hK : K.In s.heap := e0.mod.kin.keeps up
  refine codeAny_call_function room.depth (hK _ _ lk) rfl S.co S.gen rfl (PySem.W.codeRec_of hK hcd) (hb _ _ _ _ (wpAny_newFunctionEnv_cells S.kind (fun y hy => ?_) fun env he s1 x => ?_))
  · rcases S.par y.1 (List.of_mem_zip (show (y.1, y.2) ∈ ps.zip us from hy)).1 with q | q
    · exact .inl q
    · exact .inr ⟨q, PySem.W.cellsFrom_some _ _ _ (.inl q)⟩
  · subst he
    refine ⟨(e0.mod.nolimit.keeps up).keeps x.toInCall.keep, codeAny_func ?_⟩
    obtain ⟨t, ht, hq⟩ := hbody cdv A outer s H vs Q E (room.deeper _) hsp
    have e0' : Env0 P w K mg base ({ A with handled := none } : Around) outer s H := ⟨e0.frames, e0.mod, e0.bs, e0.bsz, e0.funs, e0.frf, e0.hok, e0.bare⟩
    have I0 := inv_start (CX := CX0) (E := E) S (show ({ A with handled := none } : Around).handled = none from rfl) e0' (len _ _ _ _ hsp) r x
    have I : Inv (cxA P w K mg base N qual scope f cdv A outer s H E) [] (start N vs) H s1 :=
      ⟨⟨I0.ok.mod, I0.ok.kind, I0.ok.glob, I0.ok.blt, I0.ok.above, I0.ok.inj, I0.ok.has, I0.ok.cab, (fun z => by cases z), Around.frames_deeper e0.frames, I0.ok.stk, I0.ok.exf, I0.ok.bs, I0.ok.bsz, I0.ok.noex, I0.ok.exfs, I0.ok.funs, I0.ok.frf⟩,
        I0.os, I0.bare, I0.base, I0.loc, I0.cell, I0.free, I0.freeC, I0.pin, I0.hok, I0.len⟩
    refine wpAny_mono (ht.nox.run [] s1 (start N vs) H _ I hq) (fun fl s' hs => ?_) fun e s' hs => hs
    have fin : ∀ {σ' : L2.St} {H' : Hp} {v : V} {u : Value}, Inv (cxA P w K mg base N qual scope f cdv A outer s H E) [] σ' H' s' → RelV v u → Q v H' → CE outer P w H s Q u s' :=
      fun {σ' H' v u} J rv q => ⟨v, H', J.os, J.bare, J.base, J.hok, rv, q⟩
    cases fl with
    | ret u =>
      obtain ⟨v, σ', H', J, rv, q⟩ := hs
      exact fin J rv q
    | next =>
      obtain ⟨σ', H', J, q⟩ := hs
      exact fin (v := V.non) (u := Value.none) J rfl q
    | brk =>
      obtain ⟨_, _, _, q⟩ := hs
      exact q.elim
    | cont =>
      obtain ⟨_, _, _, q⟩ := hs
      exact q.elim

theorem fn_okA {P : Program} {w : World} {K : PySem.W.Frag} {mg : Str → Option Value} {base : Heap} {x qual : Str} {prm : Arguments} {bd : List Stmt} {scope : Scope} {dvs : List V} {kws : List (Str × V)} {f : Addr} {fd : FuncData} {N ps : List Str} {k : Nat} {m : SM}
    (F : FunD K x qual prm bd scope dvs kws f fd) (Sc : FnScope N ps scope) (hl : ps.length ≤ N.length)
    (hb : ∀ (h : Hd) (F0 H0 : Hp) (cdv : Value) (A : Around) (outer : List PySem.Env) (s : Shared) (H : Hp) (E : XK), L2H.RoomH k (A.deeper (envOfC qual scope s.heap.objs.size f cdv)) →
      PSs (cxA P w K mg base N qual scope f cdv A outer s H E).nox bd (rdS K h F0 H0 mg (fun _ _ _ _ => False) m)) : FnA P w K mg base (k + 1) f fd ps (spD K (mFun ps.length N.length m)) := by
  have hlen : ∀ (φ : D × S) (ds : List D) (s : S), mFun ps.length N.length m ds s = some φ → ds.length = ps.length := fun φ ds s e => by
    unfold mFun at e
    split at e
    · assumption
    · cases e
  refine fn_ofA F Sc (fun vs H Q E q => ?_) (fun cdv A outer s H vs Q E hr q => ?_)
  · obtain ⟨h, F, ds, s, d, s', _, _, r, e, _⟩ := q
    rw [r.len]
    exact hlen _ _ _ e
  · obtain ⟨h, F0, ds, s0, d, s', sm, hd, r, e, c⟩ := q
    have el := hlen _ _ _ e
    unfold mFun at e
    rw [if_pos el] at e
    obtain ⟨o, e1, e2⟩ := bind_some' e
    refine ⟨_, hb h F0 H cdv A outer s H E hr, F0, _, s0, o, ok_start hl sm hd r el, e1, ?_⟩
    cases o with
    | nx env s1 =>
      cases e2
      exact fun σ H1 F1 _ ok1 => c _ F1 H1 ok1.gr ok1.hd .non
    | rt d s1 =>
      cases e2
      exact fun v H1 F1 g1 hd1 r1 => c v F1 H1 g1 hd1 r1
    | bk _ _ => cases e2
    | ct _ _ => cases e2
    | er _ _ _ _ => cases e2
structure FcA (P : Program) (w : World) (K : PySem.W.Frag) (mg : Str → Option Value) (base : Heap) (k : Nat) (x : Str) (φ : Fn) : Prop where
  ex : ∃ (f : Addr) (fd : FuncData) (ps : List Str), FnA P w K mg base k f fd ps (spD K φ) ∧ mg x = some (.ref f) ∧ PySem.W.keepIn K (.ref f) = true ∧ Binds K fd ps []
theorem fcA_of {P : Program} {w : World} {K : PySem.W.Frag} {mg : Str → Option Value} {base : Heap} {x qual : Str} {prm : Arguments} {bd : List Stmt} {scope : Scope} {f : Addr} {fd : FuncData} {ps : List Str} {k : Nat} {φ : Fn}
    (F : FunD K x qual prm bd scope [] [] f fd) (o : FnA P w K mg base k f fd ps (spD K φ)) (hm : mg x = some (.ref f)) (hb : Binds K fd ps []) : FcA P w K mg base k x φ := ⟨f, fd, ps, o, hm, F.kp, hb⟩
section
variable {X : Cx}
def tCallA0 (sp : Sp) (t : TA) : TE := fun σ H Q => t σ H fun vs H1 => sp vs H1 Q E0
theorem pe_callA0 {k : Nat} {f : Addr} {fd : FuncData} {ps : List Str} {sp : Sp} {x : Str} {e : Expr} {es : List Expr} {p pos : Pos} {t : TA} (F : FnA X.prog X.w X.K X.mg X.base k f fd ps sp) (hr : L2H.RoomH k X.A) (hg : Gl X x) (hm : X.mg x = some (.ref f)) (hk : PySem.W.keepIn X.K (.ref f) = true) (hb : Binds X.K fd ps [])
    (ha : PA X (e :: es) t) (hdb : (x == ("__debug__" : Str)) = false := by decide) (he : starEach (e :: es) X.env = (false, eval e X.env) :: starEach es X.env := by rfl) (hpl : (backTo pos (starEach es X.env)).any (·.1) = false := by rfl) :
    PE X (.Call (.Name x p) (e :: es) [] pos) (tCallA0 sp t) := by
  refine ⟨fun pins s σ H Q I q => wpAny_Call_Name_kw (ld_glob I hg hm (PySem.W.callWith_K (h₀ := X.base) I.ok.mod.kin hk (thn (ha.run pos pins s σ H _ I q) fun us s1 ⟨vs, H1, I1, r, q1⟩ => ⟨I1.kIn, ?_⟩) he hpl) hdb)⟩
  have hl : us.length = ps.length := by rw [← r.length]; exact F.len _ _ _ _ q1
  have b := hb s1 us I1.kIn (by rw [List.append_nil]; exact hl)
  rw [List.append_nil] at b
  refine wpAny_call (codeAny_mono (F.run X.A X.stack s1 H1 ⟨us, []⟩ us vs Q E0 hr I1.env0 b r q1) fun res s2 hq => ?_)
  cases res with
  | error e => exact (show False from hq).elim
  | ok fl =>
    cases fl with
    | ret u => exact I1.after hq
    | next => exact False.elim hq
    | brk => exact False.elim hq
    | cont => exact False.elim hq
end
end DL
set_option Elab.async false
set_option linter.all false
set_option maxRecDepth 100000
set_option maxHeartbeats 4000000
/-! DL, part 10: a lambda handed to a def that wants it to raise. -/
namespace DL
open PySem PySem.Spec PyProof.Rows L2 LamX
section
variable {X : Cx} {pins : List (Addr × Obj)} {σ : L2.St} {H : Hp} {s : Shared}
abbrev lamQ (X : Cx) : Str := X.env.qual ++ "<lambda>"
/-- a lambda is made: what changes is the table at P -/
theorem lam_new {c P : Addr} {prm : Arguments} {bd : Expr} {sc : Scope} {pos : Pos} {E : Value → Shared → Prop} {Q : Value → Shared → Prop} (I : Inv X pins σ H s) (TB : TabB X.base X.mg c P) (hcode : X.env.code = .ref c)
    (hT : TabS H P (lamQ X)) (hdef : defaultsOf prm X.env = ([], [])) (hfree : ∀ y ∈ sc.names, y.2 = .free → ∃ c, X.env.cells.lookup y.1 = some c)
    (h : ∀ (f c' : Addr) (pm ctv : Value) (H1 : Hp) (s' : Shared), Inv X pins σ H1 s' → (∀ b, b ≠ P → ∀ o, H b = some o → H1 b = some o) → TabS H1 P (lamQ X) → s.heap.objs.size ≤ f →
      s'.heap.get? f = some (PySem.W.kla_obj "<lambda>" (lamQ X) prm bd sc (cloFrom X.env.cells sc.names []) pm c' ctv) → H1 f = none → f ∉ frs X.stack → H1 c' = some (CodeO c' (lamQ X)) → Q (.ref f) s') :
    wpAny (model X.prog X.w) X.A (eval (.Lambda prm bd sc pos) X.env) Q E s := by
  obtain ⟨tb, hP, htr, hall⟩ := hT
  have atP : s.heap.get? P = some { cls := .none, data := .fields tb } := I.hok P _ hP
  have fresh : ∀ f, s.heap.objs.size ≤ f → f ∉ frs X.stack := fun f le hm => (List.mem_cons.mp (I.stkSub _ hm)).elim (fun e => Nat.lt_irrefl _ (Nat.lt_of_lt_of_le (e ▸ I.lt) le)) fun e => I.nofs le e
  refine PySem.W.kla_eval hdef ?_
  cases hc : codeAmong pos tb.toList with
  | none =>
    refine PySem.W.kla_makeFunction (mg := X.mg) (c := c) (P := P) (ps := tb) (closure_ok hfree) I.ok.glob (I.mod.glob.keeps I.bk) hcode (TB.code.keeps I.bk) atP htr hc TB.gP (TB.bm.keeps I.bk) fun c' ctv h' tk keep le lt rec_ tab => ?_
    obtain ⟨c2, oc, vs, t, e2, hoc, hd, hv⟩ := rec_
    cases e2
    have le2 : s.heap.objs.size ≤ h'.objs.size := Nat.le_trans le (Nat.le_of_lt lt)
    have nC : H c' = none := I.hok.fresh le
    have J := inv_table (t' := tk) (more := #[rawInt pos.line, rawInt pos.col, .ref c']) (h' := h'.push (PySem.W.kla_obj "<lambda>" (lamQ X) prm bd sc (cloFrom X.env.cells sc.names []) ((X.mg "__name__").getD .none) c' ctv)) I hP
      (fun b o ne e => Heap.get?_push_of_some _ (keep b o ne e)) (Heap.get?_push_of_some _ tab) le ⟨oc, vs, t, Heap.get?_push_of_some _ hoc, hd, hv⟩
    have same : ∀ b, b ≠ P → ∀ o, H b = some o → (upd (upd H P (.tbl (tb ++ #[rawInt pos.line, rawInt pos.col, .ref c']))) c' (CodeO c' (lamQ X))) b = some o := fun b ne o e => by
      rw [upd_ne (ne_of_none e nC), upd_ne ne]
      exact e
    have eL : (tb ++ #[rawInt pos.line, rawInt pos.col, .ref c']).toList = tb.toList ++ [rawInt pos.line, rawInt pos.col, .ref c'] := by simp
    refine h h'.objs.size c' _ ctv _ _ J same ⟨_, by rw [upd_ne (ne_of_none hP nC), upd_same], by rw [eL]; exact PySem.TriplesOk_snoc _ _ _ _ htr, fun p' cv hcv => ?_⟩ le2 (Heap.get?_push_size _ rfl) ?_ (fresh _ le2) upd_same
    · rw [eL] at hcv
      rcases among_app _ htr hcv with z | z
      · obtain ⟨c0, e1, e2⟩ := hall p' cv z
        exact ⟨c0, e1, same _ (fun y => by rw [y, hP] at e2; exact codeO_ne _ (Option.some.inj e2).symm) _ e2⟩
      · exact ⟨c', z, upd_same⟩
    · rw [upd_ne (Nat.ne_of_gt lt), upd_ne (Nat.ne_of_gt (Nat.lt_of_lt_of_le (Heap.lt_size atP) le2))]
      exact I.hok.fresh le2
  | some cv =>
    obtain ⟨c', e, hco⟩ := hall pos cv hc
    subst e
    refine PySem.W.kla_makeFunctionHit (mg := X.mg) (c := c) (P := P) (ps := tb) (closure_ok hfree) I.ok.glob (I.mod.glob.keeps I.bk) hcode (TB.code.keeps I.bk) atP htr hc (TB.bm.keeps I.bk) fun ctv h' tk keep le => ?_
    exact h h'.objs.size c' ((X.mg "__name__").getD .none) ctv H _ (I.kept (t' := tk) fun b o e => Heap.get?_push_of_some _ (keep b o e)) (fun b _ o q => q) ⟨tb, hP, htr, hall⟩ le (Heap.get?_push_size _ rfl) (I.hok.fresh le) (fresh _ le) hco

/-- the lambda is called in the def g that got it; what it lets out is told at the caller's slots -/
theorem pe_actS {Ng : List Str} {qg : Str} {sg : Scope} {g f c' : Addr} {cdg pm ctv : Value} {prm : Arguments} {bd : Expr} {sc : Scope} {k i : Nat} {a : Str} {pn : List (Addr × Obj)} {xe : Value → Shared → Prop} {W : WX} {tb : XK → TE} {p1 p2 : Pos}
    (I : Inv X pins σ H s) (L : LamS X.env.scope sc) (hf : s.heap.get? f = some (PySem.W.kla_obj "<lambda>" (lamQ X) prm bd sc (cloFrom X.env.cells sc.names []) pm c' ctv)) (hfn : H f = none) (hfr : f ∉ frs X.stack)
    (hbind : bindArgs (PySem.W.kla_fn "<lambda>" (lamQ X) prm bd sc (cloFrom X.env.cells sc.names []) pm (.ref c') ctv) ⟨[], []⟩ = pure [])
    (tk : Takes ((cxOf CX0 X.prog X.w X.K X.mg X.base Ng qg sg g cdg X.A X.stack s H E0).nox.tr pn xe) W) (hr : Room (k + 1) (X.A.deeper (envOfC qg sg s.heap.objs.size g cdg)))
    (hbody : ∀ (A : Around) (outer : List PySem.Env) (s : Shared) (H : Hp) (E : XK), Room k (A.deeper (lamEnv X sc s.heap.objs.size f c')) → PE (lamCx X A outer s H E sc f c') bd (tb E))
    (hN : Ng[i]? = some a) (hv : Vis sg a) (hd : (a == ("__debug__" : Str)) = false := by decide) (hcd : (a == ("__classdict__" : Str)) = false := by decide) :
    PE ((cxOf CX0 X.prog X.w X.K X.mg X.base Ng qg sg g cdg X.A X.stack s H E0).nox.tr pn xe) (.Call (.Name a p1) [] [] p2)
      (fun σZ HZ Q => σZ[i]? = some (some (.ref f)) ∧ HZ c' = some (CodeO c' (lamQ X)) ∧ tb (WE W σZ) σ HZ Q) := by
  refine ⟨fun pinsZ sZ σZ HZ Q IZ ⟨hs, hc, ht⟩ => wpAny_Call_Name_kw (thn ((pe_var (pos := p1) (i := i) hN hv hd hcd).run pinsZ sZ σZ HZ (fun v H1 => v = .ref f ∧ H1 = HZ) IZ ⟨.ref f, hs, rfl, rfl⟩) fun u s1 ⟨v, H1, I1, r1, ev, eH⟩ => ?_)⟩
  subst ev
  rw [eH] at I1
  obtain rfl : u = Value.ref f := r1
  have of1 := I1.base.keep f _ hf hfn hfr (fun z => nomatch (show f ∈ ([] : List Addr) from z))
  obtain ⟨⟨oc, vs, t, hoc, hdc, hvc⟩, _, _⟩ := I1.hok c' _ hc
  refine PySem.W.callWith_F0 ⟨_, _, _, _, of1⟩ (wpAny_call (codeAny_mono (R := CR (L2.CX X.prog X.w) (envOfC qg sg s.heap.objs.size g cdg :: X.stack) X.prog X.w HZ s1 Q (WE W σZ)) ?_ fun res s2 hq => ?_))
  · refine PySem.W.kla_callFunE hr.depth of1 rfl L.co L.gen rfl ⟨c', oc, vs, t, rfl, hoc, hdc, hvc⟩ ?_
    rw [show bindArgs (PySem.W.kla_fn "<lambda>" (lamQ X) prm bd sc (cloFrom X.env.cells sc.names []) pm (.ref c') ctv) { pos := [] ++ [] } = pure [] from hbind]
    refine wpAny_pure (wpAny_newFunctionEnv (fun y hy => (L.own y hy).2) (fun y hy => absurd hy (by simp)) (fun h₁ hns hsb => ⟨I1.nolimit.fresh _ hsb, ?_⟩) L.kind)
    have kp : ∀ b o, s1.heap.get? b = some o → h₁.get? b = some o := fun b o e => hsb.extBut b o (Nat.ne_of_lt (Heap.lt_size e)) (Heap.get?_push_of_some _ e)
    have J := lam_start2 (E := WE W σZ) (f := f) (c' := c') (tk := s1.toks + ([] : List (Str × Value)).length) I L I1.env0 hr.hd I1.base hns kp
    refine PySem.W.kla_codeExpr (wpAny_mono ((hbody _ _ s1 HZ (WE W σZ) (hr.deeper _)).run [] _ _ HZ Q J ht) (fun v s' hq => ?_) fun e s' hq => hq)
    obtain ⟨w', H', J', rv, q⟩ := hq
    exact ⟨w', H', J'.os, J'.bare, J'.base, J'.hok, rv, q⟩
  · cases res with
    | error e => exact passAt tk σZ pinsZ HZ s1 e s2 I1 hq
    | ok fl =>
      cases fl with
      | ret u => exact I1.after hq
      | next => exact False.elim hq
      | brk => exact False.elim hq
      | cont => exact False.elim hq
end
end DL
set_option Elab.async false
set_option linter.all false
set_option maxRecDepth 100000
set_option maxHeartbeats 4000000
/-! DL, part 11: _law_refused. -/
namespace DL
open PySem PySem.Spec PyProof.Rows L2 LamX
/-- what the def that catches needs -/
structure RefD (P : Program) (w : World) (K : PySem.W.Frag) (mg : Str → Option Value) (base : Heap) (k : Nat) (C : Addr) (φs : Fn) : Prop where
  mC : mg "Refused" = some (.ref C)
  xf : XfC K C
  noAt : PySem.W.findIn K (.ref C) "at" = some none
  hits : PySem.W.exmOne K (.ref C) (.ref C) = some true
  same : FcA P w K mg base k "_law_same" φs
def tRefB (K : PySem.W.Frag) (h : Hd) (F0 H0 : Hp) (mg : Str → Option Value) (f c' : Addr) (q : Str) (σ : L2.St) (me : EE) (Wd : Ends → WX) : TS := fun D σZ HZ =>
  σZ[0]? = some (some (.ref f)) ∧ HZ c' = some (CodeO c' q) ∧ rdR K h F0 H0 mg (fun cls d _ H => WE (Wd D) σZ cls d H) me σ HZ fun _ _ => False
section
variable {X : Cx} {pins : List (Addr × Obj)} {σ : L2.St} {H : Hp} {s : Shared}
abbrev refBody (p1 p2 p3 p4 p5 p6 p7 p8 p9 p10 p11 p12 : Pos) (st2 : Stmt) : List Stmt :=
  [.Try [.Expr (.Call (.Name "work" p1) [] [] p2) p3, st2] [.ExceptHandler (some (.Name "Refused" p4)) (some "e") [.Return (some (.Call (.Name "_law_same" p5) [.Attribute (.Name "e" p6) "at" p7, .Name "due" p8] [] p9)) p10] p11] [] [] p12]
/-- its body, at the state where the lambda at f came in -/
theorem ref_body {h : Hd} {F0 H0 : Hp} {k : Nat} {C g f c' : Addr} {cdg : Value} {φs : Fn} {sg : Scope} {me : EE} {v2 : V} {F : Hp} {env : Env} {s0 s1 s2 : S} {d due res : D} {Q : VK} {p1 p2 p3 p4 p5 p6 p7 p8 p9 p10 p11 p12 : Pos} {st2 : Stmt}
    (R : RefD X.prog X.w X.K X.mg X.base k C φs) (hr : L2H.RoomH k (X.A.deeper (envOfC "_law_refused" sg s.heap.objs.size g cdg))) (hwk : Vis sg "work") (hdu : Vis sg "due") (hel : sg.names.lookup ("e" : Str) = some .local) (hR : sg.names.lookup ("Refused" : Str) = some .globalImplicit) (hS : sg.names.lookup ("_law_same" : Str) = some .globalImplicit)
    (act : ∀ (W : WX) (pn : List (Addr × Obj)) (xe : Value → Shared → Prop), Takes ((cxOf CX0 X.prog X.w X.K X.mg X.base ["work", "due", "e"] "_law_refused" sg g cdg X.A X.stack s H E0).nox.tr pn xe) W →
      PE ((cxOf CX0 X.prog X.w X.K X.mg X.base ["work", "due", "e"] "_law_refused" sg g cdg X.A X.stack s H E0).nox.tr pn xe) (.Call (.Name "work" p1) [] [] p2)
        (fun σZ HZ Q => σZ[0]? = some (some (.ref f)) ∧ HZ c' = some (CodeO c' (lamQ X)) ∧ rdR X.K h F0 H0 X.mg (fun cls d _ H => WE W σZ cls d H) me σ HZ Q))
    (hc : H c' = some (CodeO c' (lamQ X))) (ok : Ok X.K h F0 H0 σ H F env s0) (r2 : Rep X.K h F v2 due) (em : me env s0 = some (("Refused" : Str), d, s1)) (es : φs [d, due] s1 = some (res, s2))
    (q : ∀ v H' F', Gr h F H F' H' → Ok X.K h F0 H0 σ H' F' env s2 → Rep X.K h F' v res → Q v H') :
    ∃ t, PSs (cxOf CX0 X.prog X.w X.K X.mg X.base ["work", "due", "e"] "_law_refused" sg g cdg X.A X.stack s H E0).nox (refBody p1 p2 p3 p4 p5 p6 p7 p8 p9 p10 p11 p12 st2) t ∧ t { nx := fun _ H' => Q .non H', rt := Q } (L2.start ["work", "due", "e"] [.ref f, v2]) H := by
  obtain ⟨fs, fds, pss, Fs, hms, hks, hbs⟩ := R.same.ex
  have hgR : Gl (cxOf CX0 X.prog X.w X.K X.mg X.base ["work", "due", "e"] "_law_refused" sg g cdg X.A X.stack s H E0).nox "Refused" := hR
  refine ⟨_, pss_one (ps_try_as (X := (cxOf CX0 X.prog X.w X.K X.mg X.base ["work", "due", "e"] "_law_refused" sg g cdg X.A X.stack s H E0).nox) (c := .ref C) (i := 2)
    (tb := fun W D σZ HZ => σZ[0]? = some (some (.ref f)) ∧ HZ c' = some (CodeO c' (lamQ X)) ∧ rdR X.K h F0 H0 X.mg (fun cls d _ H => WE W σZ cls d H) me σ HZ fun _ _ => False) (ts := fun a cls d => tRet (tCallA0 (spD X.K φs) (tCons (tXf a cls d C "at" (tVar 2)) (tCons (tVar 1) tNil))))
    rfl rfl (show ((["work", "due", "e"] : List Str)).Nodup by decide +kernel) rfl hel ⟨hgR, by decide, .inl R.mC⟩ LamX.takes0 (fun W pn xe tk _ => ?_) (fun a oe cls d pn hz hv => ?_)), ?_⟩
  · refine pss_w (pss_cons (ps_expr (act W pn xe tk)) (pss_one ps_never)) fun D σZ HZ z => ?_
    exact ⟨z.1, z.2.1, z.2.2⟩
  · exact pss_one (ps_ret (pe_callA0 Fs (k := k) ⟨hr.dp, hr.un⟩ (show sg.names.lookup ("_law_same" : Str) = some .globalImplicit from hS) hms hks hbs (pa_cons (pe_xf R.xf R.noAt hz hv (pe_var (i := 2) rfl (.inl hel))) (pa_cons (pe_var (i := 1) rfl hdu) pa_nil))))
  · refine ⟨rfl, hc, F, env, s0, _, d, s1, ok, em, fun C' dd v F' H' em' g ok' rv hx => ?_⟩
    rw [R.mC] at em'
    cases em'
    refine ⟨true, R.hits, fun _ a na => ?_, fun z => by cases z⟩
    refine ⟨.ref a, rfl, rfl, rfl, dd, [("at", v)], v, rfl, hx, rfl, v2, rfl, ?_⟩
    exact ⟨h, F', [d, due], s1, res, s2, ok'.fh, ok'.hd, .cons rv (.cons (r2.up g.ff) .nil), es, fun u F2 H2 g2 hd2 ru => q u H2 F2 (g.trans g2) (ok'.grow g2 hd2) ru⟩

def mRefused (φs : Fn) (me : EE) (m2 : EM D) : EM D := fun env s => (m2 env s).bind fun p => (me env p.2).bind fun q => if q.1 = ("Refused" : Str) then φs [q.2.1, p.1] q.2.2 else none
theorem d_refused {h : Hd} {F0 H0 : Hp} {TT : List (Addr × Str)} {k j : Nat} {C g c P : Addr} {fdg : FuncData} {φs : Fn} {prmg : Arguments} {sg : Scope} {me : EE} {m2 : EM D} {prm : Arguments} {bd : Expr} {sc : Scope} {e2 : Expr} {p lpos pos : Pos} {p1 p2 p3 p4 p5 p6 p7 p8 p9 p10 p11 p12 : Pos} {st2 : Stmt}
    (R : RefD X.prog X.w X.K X.mg X.base k C φs) (Fg : FunD X.K "_law_refused" "_law_refused" prmg (refBody p1 p2 p3 p4 p5 p6 p7 p8 p9 p10 p11 p12 st2) sg [] [] g fdg) (Sg : FnScope ["work", "due", "e"] ["work", "due"] sg) (hbg : Binds X.K fdg ["work", "due"] []) (hm : X.mg "_law_refused" = some (.ref g)) (hg : Gl X "_law_refused")
    (hwk : Vis sg "work") (hdu : Vis sg "due") (hel : sg.names.lookup ("e" : Str) = some .local) (hR : sg.names.lookup ("Refused" : Str) = some .globalImplicit) (hS : sg.names.lookup ("_law_same" : Str) = some .globalImplicit)
    (hr : Room (j + 2) X.A) (hkj : k ≤ j + 1) (hh : ∃ a b, h = some (a, b, TT)) (hmT : (P, lamQ X) ∈ TT) (hu : ∀ t ∈ TT, t.1 = P → t.2 = lamQ X) (TB : TabB X.base X.mg c P) (hcode : X.env.code = .ref c)
    (L : LamS X.env.scope sc) (hdef : defaultsOf prm X.env = ([], [])) (hbind : ∀ (q : Str) (cl : List (Str × Addr)) (pm cv ctv : Value), bindArgs (PySem.W.kla_fn "<lambda>" q prm bd sc cl pm cv ctv) ⟨[], []⟩ = pure [])
    (hbody : ∀ (A : Around) (outer : List PySem.Env) (s : Shared) (H : Hp) (E : XK) (f c' L0 : Addr), Room j (A.deeper (lamEnv X sc L0 f c')) → PE (lamCx X A outer s H E sc f c') bd (rdR X.K h F0 H0 X.mg (fun cls d _ H => E cls d H) me))
    (k2 : PE X e2 (rdE X.K h F0 H0 m2)) (hst : starEach [.Lambda prm bd sc lpos, e2] X.env = (false, eval (.Lambda prm bd sc lpos) X.env) :: starEach [e2] X.env := by rfl) (hst2 : starEach [e2] X.env = (false, eval e2 X.env) :: starEach [] X.env := by rfl) (hpl : (backTo pos (starEach [e2] X.env)).any (·.1) = false := by rfl) :
    PE X (.Call (.Name "_law_refused" p) [.Lambda prm bd sc lpos, e2] [] pos) (rdE X.K h F0 H0 (mRefused φs me m2)) := by
  refine ⟨fun pins s σ H Q I ⟨F, env, s0, res, s', ok, em, q⟩ => wpAny_Call_Name_kw (ld_glob I hg hm ?_ (by decide))⟩
  obtain ⟨⟨due, s1⟩, e1, em⟩ := bind_some' em
  obtain ⟨⟨cn, d, s2⟩, e3, em⟩ := bind_some' em
  dsimp only at em e3
  split at em
  case isFalse => cases em
  rename_i ecn
  subst ecn
  obtain ⟨oc, od, dV, kV, doc, pmg, ang, cdg, ctg, oslg, rfl, lk, hcd, hD, hK⟩ := Fg.ex
  obtain ⟨ha, hb, eh⟩ := hh
  obtain ⟨k0, k1, k2', k3, k4, k5⟩ := ok.hd ha hb TT eh
  obtain ⟨nFP, tabP⟩ := k5 _ hmT
  refine PySem.W.callWith_K (h₀ := X.base) I.ok.mod.kin Fg.kp ?_ hst hpl
  rw [hst]
  show wpAny _ _ (spliced ((false, eval (.Lambda prm bd sc lpos) X.env) :: backTo pos (starEach [e2] X.env))) _ _ s
  refine Calls.spliced_cons (lam_new I TB hcode tabP hdef (L.has I.ok) fun f c' pm ctv H1 sa I1 same tab1 le hf hfn hfr hco => ?_)
  have eP : ∃ ps, H P = some (.tbl ps) := let ⟨ps, e, _⟩ := tabP; ⟨ps, e⟩
  obtain ⟨tps, eP⟩ := eP
  have gr1 : Gr h F H F H1 := by
    refine ⟨Same.refl _, fun b o e => same b (fun z => ?_) o (ok.fh b o e), fun b o nh e => same b (fun z => nh ⟨ha, hb, TT, eh, .inr (.inr ⟨lamQ X, z ▸ hmT⟩)⟩) o e, fun b ne => ?_, fun _ _ z => z⟩
    · rw [z, nFP] at e
      cases e
    · by_cases hbP : b = P
      · obtain ⟨ps, e, _⟩ := tab1
        rw [hbP, e]
        exact fun z => nomatch z
      · cases e : H b with
        | none => exact absurd e ne
        | some o =>
          rw [same b hbP o e]
          exact fun z => nomatch z
  have neP : ∀ {b : Addr} {o : HO}, H b = some o → (∀ ps, o ≠ .tbl ps) → b ≠ P := fun {b o} e n z => by
    rw [z, eP] at e
    exact n _ (Option.some.inj e).symm
  have hd1 : HdOk h F H1 s0 := fun a b T e => by
    rw [eh] at e
    cases e
    refine ⟨k0, k1, k2', same _ (neP k3 fun _ z => nomatch z) _ k3, same _ (neP k4 fun _ z => nomatch z) _ k4, fun t ht => ⟨(k5 t ht).1, ?_⟩⟩
    by_cases htP : t.1 = P
    · rw [htP, hu t ht htP]
      exact tab1
    · obtain ⟨ps, u1, u2, u3⟩ := (k5 t ht).2
      refine ⟨ps, same _ htP _ u1, u2, fun ps' cv hcv => ?_⟩
      obtain ⟨c0, v1, v2⟩ := u3 ps' cv hcv
      exact ⟨c0, v1, same _ (neP v2 codeO_ne) _ v2⟩
  have ok1 := ok.grow gr1 hd1
  have nL : f ≠ X.env.locals := fun z => Nat.lt_irrefl _ (Nat.lt_of_lt_of_le I.lt (z ▸ le))
  have nfs : f ∉ X.fs := I.nofs le
  have IP : Inv X ((f, PySem.W.kla_obj "<lambda>" (lamQ X) prm bd sc (cloFrom X.env.cells sc.names []) pm c' ctv) :: pins) σ H1 sa := I1.pins_of fun r hr' => by
    rcases List.mem_cons.mp hr' with e | e
    · rw [e]
      exact ⟨hf, hfn, nL, nfs, fun v z => by cases z⟩
    · exact I1.pin r (List.mem_append_right _ e)
  refine thn ((pa_cons k2 pa_nil hst2).run pos ((f, PySem.W.kla_obj "<lambda>" (lamQ X) prm bd sc (cloFrom X.env.cells sc.names []) pm c' ctv) :: pins) sa σ H1 (fun vs H2 => ∃ v F2, vs = [v] ∧ Gr h F H1 F2 H2 ∧ Ok X.K h F0 H0 σ H2 F2 env s1 ∧ Rep X.K h F2 v due) IP ⟨F, env, s0, due, s1, ok1, e1, fun v F2 H2 g2 ok2 r2 => ⟨v, F2, rfl, g2, ok2, r2⟩⟩) fun us sb ⟨vs, H2, I2, rv, v, F2, ev, g2, ok2, r2⟩ => ?_
  subst ev
  have pf := I2.pin (f, PySem.W.kla_obj "<lambda>" (lamQ X) prm bd sc (cloFrom X.env.cells sc.names []) pm c' ctv) (List.mem_append_right _ List.mem_cons_self)
  have hc2 : H2 c' = some (CodeO c' (lamQ X)) := g2.hh c' _ (fun z => by
    obtain ⟨a, b, T, e, z⟩ := z
    rw [eh] at e
    cases e
    obtain ⟨_, _, _, w3, w4, w5⟩ := hd1 ha hb TT eh
    rcases z with rfl | rfl | ⟨q', hq'⟩
    · rw [w3] at hco
      cases hco
    · rw [w4] at hco
      cases hco
    · obtain ⟨_, ps, w6, _⟩ := w5 _ hq'
      rw [w6] at hco
      exact codeO_ne _ (Option.some.inj hco).symm) hco
  refine ⟨I2.kIn, wpAny_call (codeAny_mono (R := CR CX0 X.stack X.prog X.w H2 sb Q E0) ?_ fun rr sz hq => ?_)⟩
  · refine run_ofS (N := ["work", "due", "e"]) (ps := ["work", "due"]) (us := .ref f :: us) (vs := [.ref f, v]) (k := j + 1) lk hcd Sg hr I2.env0 (by
      have b := hbg sb (.ref f :: us) I2.kIn (by rw [List.append_nil, List.length_cons, ← rv.length]; rfl)
      rw [List.append_nil] at b
      exact b) (.cons rfl rv) rfl fun hr' => ?_
    obtain ⟨t, ht, hq⟩ := ref_body (f := f) (st2 := st2) (p1 := p1) (p2 := p2) (p3 := p3) (p4 := p4) (p5 := p5) (p6 := p6) (p7 := p7) (p8 := p8) (p9 := p9) (p10 := p10) (p11 := p11) (p12 := p12) (Q := Q) R ⟨by have := hr'.dp; omega, by have := hr'.un; omega⟩ hwk hdu hel hR hS (fun W pn xe tk => pe_actS (i := 0) (k := j) (tb := fun E => rdR X.K h F0 H0 X.mg (fun cls d _ H => E cls d H) me) I2 L pf.1 pf.2.1 hfr (hbind _ _ _ _ _) tk hr' (fun A outer s H E hr2 => hbody A outer s H E f c' _ hr2) rfl hwk) hc2 ok2 r2 e3 em
      (fun u H3 F3 g3 ok3 r3 => q u F3 H3 ((gr1.trans g2).trans g3) ok3 r3)
    exact ⟨t, ht.nox, hq⟩
  · cases rr with
    | error e => exact (show False from hq).elim
    | ok fl =>
      cases fl with
      | ret u =>
        obtain ⟨v', H', J, rr', q'⟩ := I2.after hq
        exact ⟨v', H', J.pins_of fun r hr' => J.pin r (List.mem_append_right _ (List.mem_cons_of_mem _ hr')), rr', q'⟩
      | next => exact False.elim hq
      | brk => exact False.elim hq
      | cont => exact False.elim hq
end
end DL
set_option Elab.async false
set_option linter.all false
set_option maxRecDepth 100000
set_option maxHeartbeats 4000000
/-! DL, part 12: try around a call that raises; isinstance of what was caught. -/
namespace DL
open PySem PySem.Spec PyProof.Rows L2
def rIsX (K : PySem.W.Frag) (D a : Addr) (cls : Value) (d : Option Addr) : List V → Hp → VK → Prop := fun xs H Q => ∃ (c : V) (cv : Value) (b : Bool) (dd : Addr) (fs : List (Str × V)), xs = [.ref a, c] ∧ cls = .ref D ∧ d = some dd ∧ (∀ u, RelV c u → u = cv) ∧ PySem.W.kitOne K (.ref D) cv = some b ∧ H dd = some (.xd fs) ∧ Q (.bl b) H
theorem call_isX {X : Cx} {a D : Addr} {oe : Obj} {cls : Value} {d : Option Addr} {pn : List (Addr × Obj)} (C : ExcC X.K D) (hz : Zc cls d oe) (hf : ∃ vs, oe.data = .fields vs) : CallR (X.suite a ((a, oe) :: pn)) (.builtin "isinstance") (rIsX X.K D a cls d) := by
  intro pins s σ H xs us Q I r q
  obtain ⟨c, cv, b, dd, fs, rfl, rfl, rfl, hcv, ek, ed, q⟩ := q
  cases r with | @cons _ u0 _ ur ra r1 => ?_
  cases r1 with | @cons _ uc _ ur rc r2 => ?_
  cases r2
  obtain rfl : u0 = Value.ref a := ra
  obtain rfl : uc = cv := hcv _ rc
  obtain ⟨hget, _⟩ := I.pin (a, oe) (List.mem_append.mpr (.inl List.mem_cons_self))
  obtain ⟨mA, ⟨od, es, ep, ho, _⟩, _⟩ := I.hok dd _ ed
  obtain ⟨vs, hv⟩ := hf
  have J : PySem.W.InstAt s.heap a oe D (some od) := ⟨hget, hz.1, by unfold PySem.W.notCls; rw [hv] <;> rfl, by rw [hz.2]; exact ho⟩
  obtain ⟨cd, hcd, _⟩ := PySem.W.any_some C.hd
  exact PySem.W.kia_one (PySem.W.kitx_exc (gt := none) (by rw [hcd]; rfl) C.hg C.hk C.hs C.ha C.hn C.ht C.hm) I.kIn J ek (fun z => nomatch z) fun tk => ⟨.bl b, H, I.kept (t' := tk) fun _ _ z => z, rfl, q⟩

structure TryD (P : Program) (w : World) (K : PySem.W.Frag) (mg : Str → Option Value) (base : Heap) (k : Nat) (cn c1 c2 : Str) (C : Addr) (φs : Fn) : Prop where
  mC : mg cn = some (.ref C)
  xf : XfC K C
  noAt : PySem.W.findIn K (.ref C) "at" = some none
  hits : PySem.W.exmOne K (.ref C) (.ref C) = some true
  same : FcA P w K mg base k "_law_same" φs
  exC : ExcC K C
  is1 : ∃ C1, mg c1 = some (.ref C1) ∧ PySem.W.kitOne K (.ref C) (.ref C1) = some true
  is2 : ∃ C2, mg c2 = some (.ref C2) ∧ PySem.W.kitOne K (.ref C) (.ref C2) = some false
  isb : mg "isinstance" = none
noncomputable def mTryF (i j : Nat) (cn : Str) (φs : Fn) (me : EE) : SM := fun env s => (me env s).bind fun q => if q.1 = cn ∧ i < env.length then (match env[j]? with
  | some (.im da) => (φs [q.2.1, da] q.2.2).bind fun r => (match r.1 with
    | .bool b => if b = true then some (.nx (env.set i .un) r.2) else some (.rt (.bool false) r.2)
    | _ => none)
  | _ => none) else none
section
variable {X : Cx} {h : Hd} {F0 H0 : Hp} {W : WX}
abbrev sameTest (n y c1 c2 : Str) (q1 q2 q3 q4 q5 q6 q7 q8 q9 q10 q11 q12 q13 q14 q15 : Pos) : Expr :=
  .BoolOp .Or [.UnaryOp .Not (.Call (.Name "_law_same" q1) [.Attribute (.Name n q2) "at" q3, .Name y q4] [] q5) q6, .UnaryOp .Not (.Call (.Name "isinstance" q7) [.Name n q8, .Name c1 q9] [] q10) q11, .Call (.Name "isinstance" q12) [.Name n q13, .Name c2 q14] [] q15] q5
theorem s_tryF {k i j : Nat} {cn n y c1 c2 : Str} {C : Addr} {φs : Fn} {me : EE} {e : Expr} {st2 : Stmt} {p0 p1 p2 p3 p4 p5 p6 q1 q2 q3 q4 q5 q6 q7 q8 q9 q10 q11 q12 q13 q14 q15 q16 : Pos} {jj : Nat}
    (T : TryD X.prog X.w X.K X.mg X.base k cn c1 c2 C φs) (hs : X.stack = X.env :: X.outer) (hf : X.env.frame = some X.env.locals) (hN : X.N.Nodup) (hi : X.N[i]? = some n) (hln : X.env.kindOf n = some .local) (hj : X.N[j]? = some y) (hly : Vis X.env.scope y) (hij : i ≠ j) (tk : Takes X W)
    (hr : L2H.RoomH k X.A) (hgc : Gl X cn) (hg1 : Gl X c1) (hg2 : Gl X c2) (hgs : Gl X "_law_same") (hgi : Gl X "isinstance") (hd : (cn == ("__debug__" : Str)) = false) (hd1 : (c1 == ("__debug__" : Str)) = false) (hd2 : (c2 == ("__debug__" : Str)) = false) (hdn : (n == ("__debug__" : Str)) = false) (hcn : (n == ("__classdict__" : Str)) = false) (hdy : (y == ("__debug__" : Str)) = false) (hcy : (y == ("__classdict__" : Str)) = false)
    (kR : ∀ (W : WX) (pn : List (Addr × Obj)) (xe : Value → Shared → Prop), Takes (X.tr pn xe) W → PE (X.tr pn xe) e (rdR X.K h F0 H0 X.mg W me)) (hsw : swapsWith e none p1.line X.env = pure false := by rfl) :
    PS X (.Try [.Expr e p1, st2] [.ExceptHandler (some (.Name cn p2)) (some n) [.If (.BoolOp .Or [.UnaryOp .Not (.Call (.Name "_law_same" q1) [.Attribute (.Name n q2) "at" q3, .Name y q4] [] q5) q6, .UnaryOp .Not (.Call (.Name "isinstance" q7) [.Name n q8, .Name c1 q9] [] q10) q11, .Call (.Name "isinstance" q12) [.Name n q13, .Name c2 q14] [] q15] q16) [.Return (some (.Constant (.bool false) jj p3)) p4] [] p5] p6] [] [] p0)
      (rdS X.K h F0 H0 X.mg W (mTryF i j cn φs me)) := by
  obtain ⟨fs, fds, pss, Fs, hms, hks, hbs⟩ := T.same.ex
  obtain ⟨C1, m1, i1⟩ := T.is1
  obtain ⟨C2, m2, i2⟩ := T.is2
  refine ps_w (ps_try_as (X := X) (c := .ref C) (i := i) (tb := fun W D σ H => rdS X.K h F0 H0 X.mg W (mErr me) D σ H)
    (ts := fun a cls d => tIfS (tOr (tNot (tB (tCallA0 (spD X.K φs) (tCons (tXf a cls d C "at" (tVar i)) (tCons (tVar j) tNil))))) (tOr (tNot (tB (tCB (rIsX X.K C a cls d) (tCons (tVar i) (tCons (tC (.ref C1)) tNil))))) (tB (tCB (rIsX X.K C a cls d) (tCons (tVar i) (tCons (tC (.ref C2)) tNil)))))) (tRet (tC (.bl false))) tNext)
    hs hf hN hi hln ⟨hgc, hd, .inl T.mC⟩ tk (fun W pn xe tk _ => ?_) (fun a oe cls d pn hz hv => ?_)) fun D σ H q => ?_
  · refine pss_w (pss_cons (s_exprR (kR W pn xe tk) hsw) (pss_one ps_never)) fun D σ H q => ?_
    obtain ⟨F, env, s, o, ok, e, c⟩ := q
    obtain ⟨p, e1, e2⟩ := bind_some' e
    cases e2
    exact ⟨F, env, s, _, ok, e, c⟩
  · have ki : ∀ {p : Pos}, PE (X.suite a ((a, oe) :: pn)) (.Name n p) (tVar i) := fun {p} => pe_var (X := X.suite a ((a, oe) :: pn)) (i := i) hi (.inl hln) hdn hcn
    have kj : PE (X.suite a ((a, oe) :: pn)) (.Name y q4) (tVar j) := pe_var (X := X.suite a ((a, oe) :: pn)) (i := j) hj hly hdy hcy
    have ka : PE (X.suite a ((a, oe) :: pn)) (.Call (.Name "_law_same" q1) [.Attribute (.Name n q2) "at" q3, .Name y q4] [] q5) (tCallA0 (spD X.K φs) (tCons (tXf a cls d C "at" (tVar i)) (tCons (tVar j) tNil))) :=
      pe_callA0 (X := X.suite a ((a, oe) :: pn)) (k := k) Fs ⟨hr.dp, hr.un⟩ hgs hms hks hbs (pa_cons (pe_xf T.xf T.noAt hz hv ki) (pa_cons kj pa_nil))
    have kb : ∀ {c : Str} {Cc : Addr} {r1 r2 r3 r4 : Pos}, Gl X c → X.mg c = some (.ref Cc) → (c == ("__debug__" : Str)) = false → PE (X.suite a ((a, oe) :: pn)) (.Call (.Name "isinstance" r1) [.Name n r2, .Name c r3] [] r4) (tCB (rIsX X.K C a cls d) (tCons (tVar i) (tCons (tC (.ref Cc)) tNil))) := fun {c Cc r1 r2 r3 r4} hgc' hmc hdc =>
      pe_callB (X := X.suite a ((a, oe) :: pn)) (call_isX T.exC hz hv) hgi T.isb (by decide +kernel) (pa_cons ki (pa_cons (pe_glob (X := X.suite a ((a, oe) :: pn)) (v := .ref Cc) hgc' hmc rfl hdc) pa_nil))
    exact pss_one (ps_if (pw_or (pt_not (pt_val ka)) (pw_or (pt_not (pt_val (kb hg1 m1 hd1))) (pw_or1 (pt_val (kb hg2 m2 hd2))))).pt (pss_one (ps_ret pe_bl)) pss_nil)
  · obtain ⟨F, env, s, o, ok, eo, c⟩ := q
    obtain ⟨⟨cn', d, s1⟩, e1, eq⟩ := bind_some' eo
    clear eo
    dsimp only at eq
    split at eq
    case isFalse => cases eq
    rename_i ecn
    obtain ⟨ecn, lti0⟩ := ecn
    subst ecn
    split at eq
    case h_2 => cases eq
    rename_i da hda
    obtain ⟨⟨r, s2⟩, e2, er⟩ := bind_some' eq
    clear eq
    dsimp only at er
    split at er
    case h_2 => cases er
    rename_i b
    refine ⟨F, env, s, .er cn' d env s1, ok, by unfold mErr; rw [e1]; rfl, fun C' dd v σ1 H1 F1 sm em ok1 rv hx => ?_⟩
    rw [T.mC] at em
    cases em
    refine ⟨true, T.hits, fun _ a na => ?_, fun z => by cases z⟩
    obtain ⟨oj, ej, vj, rfl, rj⟩ := ok1.sl j _ hda
    have lti : i < σ1.length := by rw [ok1.len]; exact lti0
    have sli : (σ1.set i (some (V.ref a)))[i]? = some (some (.ref a)) := List.getElem?_set_self lti
    refine ⟨.ref a, sli, rfl, rfl, dd, [("at", v)], v, rfl, hx, rfl, vj, by rw [List.getElem?_set_ne hij]; exact ej, ?_⟩
    refine ⟨h, F1, [d, da], s1, .bool b, s2, ok1.fh, ok1.hd, .cons rv (.cons rj .nil), e2, fun u F2 H2 g2 hd2 ru => ?_⟩
    cases ru
    have ok2 := ok1.grow g2 hd2
    refine ⟨b, rfl, ?_⟩
    have hx2 : H2 dd = some (.xd [("at", v)]) := g2.hh dd _ (fun z => by
      obtain ⟨a, b, TT, e, z⟩ := z
      obtain ⟨_, _, _, w3, w4, w5⟩ := ok1.hd a b TT e
      rcases z with rfl | rfl | ⟨q', hq'⟩
      · rw [w3] at hx
        cases hx
      · rw [w4] at hx
        cases hx
      · obtain ⟨_, ps, w6, _⟩ := w5 _ hq'
        rw [w6] at hx
        cases hx) hx
    cases b with
    | false =>
      rw [if_neg Bool.false_ne_true] at er
      cases er
      exact c (.bl false) H2 F2 ok2.gr ok2.hd (.bl false)
    | true =>
      rw [if_pos rfl] at er
      cases er
      refine ⟨.ref a, sli, .ref C1, .ref C1, true, dd, _, rfl, rfl, rfl, fun u z => z, i1, hx2, true, rfl, ?_⟩
      refine ⟨.ref a, sli, .ref C2, .ref C2, false, dd, _, rfl, rfl, rfl, fun u z => z, i2, hx2, false, rfl, ?_⟩
      show D.nx ((σ1.set i (some (V.ref a))).set i none) H2
      rw [List.set_set]
      exact c _ H2 F2 (sm.trans g2.ff) (ok2.unset i none)
end
end DL
set_option Elab.async false
set_option linter.all false
set_option maxRecDepth 100000
set_option maxHeartbeats 4000000
/-! DL, part 13: the draws' two lists, read and changed. -/
namespace DL
open PySem PySem.Spec PyProof.Rows L2
def isHd (env : Env) (i : Nat) : Bool := match env[i]? with
  | some (.im (.dict [])) => true
  | _ => false
section
variable {K : PySem.W.Frag} {h : Hd} {F0 H0 F H : Hp} {σ : L2.St} {env : Env} {s : S} {a b : Addr} {T : List (Addr × Str)} {i : Nat}
theorem Ok.hd0 (k : Ok K h F0 H0 σ H F env s) (e : isHd env i = true) : ∃ a b T, h = some (a, b, T) ∧ σ[i]? = some (some (.ref a)) ∧ H a = some (.lst [.ref b, .int s.2]) ∧ H b = some (.lst (s.1.map V.int)) := by
  unfold isHd at e
  split at e
  · rename_i hi
    obtain ⟨o, eo, v, rfl, r⟩ := k.sl i _ hi
    cases r with
    | @hn a b T hh =>
      obtain ⟨_, _, _, k3, k4, _⟩ := k.hd a b T hh
      exact ⟨a, b, T, hh, eo, k3, k4⟩
  · cases e
theorem Ok.change (k : Ok K h F0 H0 σ H F env s) {p : Addr} {o : HO} {s' : S} (hp : isH h p) (hd : HdOk h F (upd H p o) s') : Ok K h F0 H0 σ (upd H p o) F env s' := by
  have nF := (k.hd.has hp).2
  refine ⟨k.len, fun j x e => ?_, ⟨k.gr.ff, fun c u q => ?_, fun c u nh q => ?_, fun c ne => ?_, k.gr.nw⟩, hd, k.nw, k.dj⟩
  · obtain ⟨u, e1, e2⟩ := k.sl j x e
    refine ⟨u, e1, ?_⟩
    cases x with
    | un => trivial
    | im d => exact e2
    | ow ds =>
      obtain ⟨q, vs, eq, nq, nhq, hq, r⟩ := e2
      exact ⟨q, vs, eq, nq, nhq, by rw [upd_ne fun z => nhq (by rw [z]; exact hp)]; exact hq, r⟩
  · rw [upd_ne fun z => by rw [z, nF] at q; cases q]
    exact k.gr.fh c u q
  · rw [upd_ne fun z => nh (by rw [z]; exact hp)]
    exact k.gr.hh c u nh q
  · by_cases hc : c = p
    · rw [hc, upd_same]
      exact fun z => nomatch z
    · rw [upd_ne hc]
      exact k.gr.st c ne
theorem Ok.cells (k : Ok K h F0 H0 σ H F env s) (hh : h = some (a, b, T)) (cs : List Int) : Ok K h F0 H0 σ (upd H b (.lst (cs.map V.int))) F env (cs, s.2) := by
  refine k.change ⟨a, b, T, hh, .inr (.inl rfl)⟩ fun a' b' T' e => ?_
  rw [hh] at e
  cases e
  obtain ⟨k0, k1, k2, k3, k4, k5⟩ := k.hd a b T hh
  exact ⟨k0, k1, k2, by rw [upd_ne k0]; exact k3, upd_same, fun t ht => ⟨(k5 t ht).1, TabS.mut (k5 t ht).2 (.inr ⟨_, k4⟩)⟩⟩
theorem Ok.stir (k : Ok K h F0 H0 σ H F env s) (hh : h = some (a, b, T)) (t : Int) : Ok K h F0 H0 σ (upd H a (.lst [.ref b, .int t])) F env (s.1, t) := by
  refine k.change ⟨a, b, T, hh, .inl rfl⟩ fun a' b' T' e => ?_
  rw [hh] at e
  cases e
  obtain ⟨k0, k1, k2, k3, k4, k5⟩ := k.hd a b T hh
  exact ⟨k0, k1, k2, upd_same, by rw [upd_ne (Ne.symm k0)]; exact k4, fun t ht => ⟨(k5 t ht).1, TabS.mut (k5 t ht).2 (.inr ⟨_, k3⟩)⟩⟩
theorem dp_ints {xs : List Int} : DpAll K H (xs.map V.int) (xs.map PyData.int) := by
  induction xs with
  | nil => exact .nil
  | cons x xs ih => exact .cons (.int x) ih
theorem lay_ints : ∀ xs : List Int, PyData.canLayAll0 (xs.map PyData.int) = true
  | [] => by simp [PyData.canLayAll0]
  | x :: xs => by simp [PyData.canLayAll0, PyData.canLay0, lay_ints xs]
theorem dep_ints : ∀ xs : List Int, PyData.depthAll (xs.map PyData.int) ≤ 1
  | [] => by simp [PyData.depthAll]
  | x :: xs => by
    have q := dep_ints xs
    simp only [List.map_cons, PyData.depthAll, PyData.depth]
    omega
theorem shp_ints (xs : List Int) : SeqAt.shaped (.list (xs.map PyData.int)) = true := by
  have h1 := dep_ints xs
  have h2 : PyData.depth (.list (xs.map PyData.int)) ≤ 64 := by
    simp only [PyData.depth]
    omega
  show (PyData.canLay0 (.list (xs.map PyData.int)) && decide (PyData.depth (.list (xs.map PyData.int)) ≤ 64)) = true
  rw [Bool.and_eq_true]
  exact ⟨by simp only [PyData.canLay0]; exact lay_ints xs, decide_eq_true h2⟩
theorem eqv_nil (xs : List Int) : PyData.eqv (.list (xs.map PyData.int)) (.list []) = xs.isEmpty := by
  cases xs <;> simp [PyData.eqv, PyData.eqvAll]
end
section
variable {X : Cx} {h : Hd} {F0 H0 : Hp} {W : WX} {i : Nat} {o : Expr}
def tH0 (K : PySem.W.Frag) (i : Nat) : TE := tOp (rIx K) (tVar i) (tC (.int 0))
theorem k_h0 (ko : PE X o (tVar i)) {j : Nat} {p q : Pos} : PE X (.Subscript o (.Constant (.int 0) j p) q) (tH0 X.K i) := pe_ix ix_seq ko pe_int (fun _ _ => rfl)
theorem w_h0 {K : PySem.W.Frag} {σ : L2.St} {H : Hp} {a b : Addr} {z : Int} {Q : VK} (e1 : σ[i]? = some (some (.ref a))) (e2 : H a = some (.lst [.ref b, .int z])) (q : Q (.ref b) H) : tH0 K i σ H Q :=
  ⟨_, e1, .inl ⟨a, _, 0, .ref b, rfl, rfl, .inl (.inl e2), rfl, q⟩⟩
/-- heap[0] != [] -/
def tmCells (i : Nat) : EM Bool := fun env s => if isHd env i = true then some (!s.1.isEmpty, s) else none
theorem d_cellsNe (ko : PE X o (tVar i)) (hu : X.A.units + 64 < cLine) {j : Nat} {p q r t : Pos} : PT X (.Compare (.Subscript o (.Constant (.int 0) j p) q) [.NotEq] [.List [] r] t) (rdT X.K h F0 H0 (tmCells i)) :=
  pt_w (pt_cmpR (op_neD hu) (k_h0 ko) (pe_lst pa_nil) rfl) fun σ H Q q => by
    obtain ⟨F, env, s, d, s', ok, e, c⟩ := q
    unfold tmCells at e
    split at e
    case isFalse => cases e
    rename_i hi
    cases e
    obtain ⟨a, b, T, hh, e1, e2, e3⟩ := ok.hd0 hi
    refine w_h0 e1 e2 ⟨Nat.zero_le _, fun p np => ⟨.list (s.1.map PyData.int), .list [], .lst (.inl (.inl ?_)) dp_ints, .lst (.inl (.inl upd_same)) .nil, shp_ints _, shp_ints [], _, rfl, ?_⟩⟩
    · rw [upd_ne fun z => by rw [← z, e3] at np; cases np]
      exact e3
    · rw [eqv_nil]
      exact c F _ (Gp.own ok.fh np).gr (ok.gp (Gp.own ok.fh np))
/-- heap[0][e] -/
def mCellAt (i : Nat) (m : EM D) : EM D := fun env s => if isHd env i = true then (m env s).bind fun p => (match p.1 with
  | .int j => (atI p.2.1 j).bind fun c => some (.int c, p.2)
  | _ => none) else none
theorem atI_map {α β : Type} {f : α → β} {xs : List α} {j : Int} {v : α} (h : atI xs j = some v) : atI (xs.map f) j = some (f v) := by
  unfold atI at h ⊢
  rw [List.length_map]
  cases e : ixN xs.length j with
  | none =>
    rw [e] at h
    cases h
  | some n =>
    rw [e] at h
    have h2 : xs[n]? = some v := h
    show (xs.map f)[n]? = some (f v)
    rw [List.getElem?_map, h2]
    rfl
theorem d_cellAt (ko : PE X o (tVar i)) {j : Nat} {p q t : Pos} {ix : Expr} {m : EM D} (ki : PE X ix (rdE X.K h F0 H0 m)) (hs : PlainIx ix) : PE X (.Subscript (.Subscript o (.Constant (.int 0) j p) q) ix t) (rdE X.K h F0 H0 (mCellAt i m)) :=
  pe_w (pe_ix ix_seq (k_h0 ko) ki hs) fun σ H Q q => by
    obtain ⟨F, env, s, d, s', ok, e, c⟩ := q
    unfold mCellAt at e
    split at e
    case isFalse => cases e
    rename_i hi
    obtain ⟨⟨d1, s1⟩, e0, e⟩ := bind_some' e
    dsimp only at e
    split at e
    case h_2 => cases e
    rename_i jj
    obtain ⟨cc, ec, e⟩ := bind_some' e
    cases e
    obtain ⟨a, b, T, hh, e1, e2, e3⟩ := ok.hd0 hi
    refine w_h0 e1 e2 ⟨F, env, s, _, _, ok, e0, fun v F1 H1 g1 ok1 r1 => ?_⟩
    cases r1
    obtain ⟨_, _, _, w3, w4, _⟩ := ok1.hd a b T hh
    exact .inl ⟨b, _, jj, .int cc, rfl, rfl, .inl (.inl w4), atI_map ec, c _ F1 H1 g1 ok1 (.int cc)⟩
/-- heap[0].pop() -/
def tPop0 (K : PySem.W.Frag) (i : Nat) : TE := tBM0 K "list" (fun x xs H Q => rPop x xs H Q) (tH0 K i)
theorem k_pop0 (ko : PE X o (tVar i)) {j : Nat} {p q apos cpos : Pos} (hline : (apos.endLine == cpos.line) = true) : PE X (.Call (.Attribute (.Subscript o (.Constant (.int 0) j p) q) "pop" apos) [] [] cpos) (tPop0 X.K i) :=
  pe_bm0 PySem.F.plainAttrs_list PySem.F.slot_list_pop PySem.F.type_list_pop mt_pop (k_h0 ko) (by rfl) hline
theorem w_pop0 {σ : L2.St} {H F : Hp} {env : Env} {s : S} {c : Int} {Q : VK} (ok : Ok X.K h F0 H0 σ H F env s) (hi : isHd env i = true) (hc : s.1[s.1.length - 1]? = some c) (q : ∀ H1, Ok X.K h F0 H0 σ H1 F env (s.1.dropLast, s.2) → Q (.int c) H1) : tPop0 X.K i σ H Q := by
  obtain ⟨a, b, T, hh, e1, e2, e3⟩ := ok.hd0 hi
  refine w_h0 e1 e2 ⟨.inl ⟨rfl, _, .of e3⟩, b, _, .int c, rfl, rfl, e3, ?_, ?_⟩
  · rw [List.length_map, List.getElem?_map, hc]
    rfl
  · rw [← List.map_dropLast]
    exact q _ (ok.cells hh _)
def mPopS (i : Nat) : SM := fun env s => if isHd env i = true then (s.1[s.1.length - 1]?).bind fun _ => some (.nx env (s.1.dropLast, s.2)) else none
theorem s_popS (ko : PE X o (tVar i)) {j : Nat} {p q apos cpos pos : Pos} (hline : (apos.endLine == cpos.line) = true) (hs0 : swapsWith (.Call (.Attribute (.Subscript o (.Constant (.int 0) j p) q) "pop" apos) [] [] cpos) none pos.line X.env = pure false) :
    PS X (.Expr (.Call (.Attribute (.Subscript o (.Constant (.int 0) j p) q) "pop" apos) [] [] cpos) pos) (rdS X.K h F0 H0 X.mg W (mPopS i)) := ps_w (ps_expr (k_pop0 ko hline) hs0) fun E σ H q => by
  obtain ⟨F, env, s, o, ok, e, c⟩ := q
  unfold mPopS at e
  split at e
  case isFalse => cases e
  rename_i hi
  obtain ⟨c0, ec, e⟩ := bind_some' e
  cases e
  exact w_pop0 ok hi ec fun H1 ok1 => c σ H1 F (Same.refl _) ok1
def mPopSet (i k : Nat) : SM := fun env s => if isHd env i = true then (s.1[s.1.length - 1]?).bind fun c => some (.nx (env.set k (.im (.int c))) (s.1.dropLast, s.2)) else none
theorem s_popSet (ko : PE X o (tVar i)) {k : Nat} {x : Str} {j : Nat} {p q apos cpos pos pos' : Pos} (hline : (apos.endLine == cpos.line) = true) (hN : X.N.Nodup) (hi : X.N[k]? = some x) (hx : Loc X.env.scope x)
    (hs : swapsWith (.Call (.Attribute (.Subscript o (.Constant (.int 0) j p) q) "pop" apos) [] [] cpos) (some (.Name x pos')) pos.line X.env = pure false) (hf : X.fn x = true ∨ X.env.scope.names.lookup x = some .local) :
    PS X (.Assign [.Name x pos'] (.Call (.Attribute (.Subscript o (.Constant (.int 0) j p) q) "pop" apos) [] [] cpos) pos) (rdS X.K h F0 H0 X.mg W (mPopSet i k)) := ps_w (ps_set hN hi hx (k_pop0 ko hline) hs hf) fun E σ H q => by
  obtain ⟨F, env, s, o, ok, e, c⟩ := q
  unfold mPopSet at e
  split at e
  case isFalse => cases e
  rename_i hi
  obtain ⟨c0, ec, e⟩ := bind_some' e
  cases e
  exact w_pop0 ok hi ec fun H1 ok1 => c _ H1 F (Same.refl _) (ok1.set k (.int c0))
def mCellApp (i : Nat) (m : EM D) : SM := fun env s => if isHd env i = true then (m env s).bind fun p => (match p.1 with
  | .int c => if p.2.1.length ≤ 1000 then some (.nx env (p.2.1 ++ [c], p.2.2)) else none
  | _ => none) else none
theorem s_cellApp (ko : PE X o (tVar i)) {j : Nat} {p q apos cpos pos : Pos} {e : Expr} {m : EM D} (ke : PE X e (rdE X.K h F0 H0 m)) (hs0 : swapsWith (.Call (.Attribute (.Subscript o (.Constant (.int 0) j p) q) "append" apos) [e] [] cpos) none pos.line X.env = pure false)
    (hfew : ((backTo cpos (starEach [e] X.env)).all (fun x => !x.1) && (backToKw cpos (keywordEach [] X.env)).all (fun x => x.1.isSome)
      && decide ([e].length + ([] : List Keyword).length + (if ([] : List Keyword).isEmpty then 0 else 1) < 30)) = true)
    (hline : (apos.endLine == cpos.line) = true) (hs : starEach [e] X.env = (false, eval e X.env) :: starEach [] X.env) (hplain : (backTo cpos (starEach [] X.env)).any (·.1) = false) :
    PS X (.Expr (.Call (.Attribute (.Subscript o (.Constant (.int 0) j p) q) "append" apos) [e] [] cpos) pos) (rdS X.K h F0 H0 X.mg W (mCellApp i m)) :=
  ps_w (ps_expr (pe_bm PySem.F.plainAttrs_list PySem.F.slot_list_append PySem.F.type_list_append mt_append (k_h0 ko) (pa_cons ke pa_nil hs) (by rfl) hfew hline hs hplain) hs0) fun E σ H q => by
  obtain ⟨F, env, s, o, ok, eo, c⟩ := q
  unfold mCellApp at eo
  split at eo
  case isFalse => cases eo
  rename_i hi
  obtain ⟨⟨d1, s1⟩, e0, e4⟩ := bind_some' eo
  clear eo
  dsimp only at e4
  split at e4
  case h_2 => cases e4
  rename_i c0
  split at e4
  case isFalse => cases e4
  rename_i hl
  cases e4
  obtain ⟨a, b, T, hh, e1, e2, e3⟩ := ok.hd0 hi
  refine w_h0 e1 e2 ⟨.inl ⟨rfl, _, .of e3⟩, F, env, s, _, s1, ok, e0, fun v F1 H1 g1 ok1 r1 => ?_⟩
  cases r1
  obtain ⟨_, _, _, w3, w4, _⟩ := ok1.hd a b T hh
  refine ⟨b, _, .int c0, rfl, rfl, w4, by rw [List.length_map]; exact Nat.lt_of_le_of_lt hl (by decide), ?_⟩
  rw [show s1.1.map V.int ++ [V.int c0] = (s1.1 ++ [c0]).map V.int by rw [List.map_append]; rfl]
  exact c σ _ F1 g1.ff (ok1.cells hh _)
/-- heap[1] -/
def mStir (i : Nat) : EM D := fun env s => if isHd env i = true then some (.int s.2, s) else none
theorem d_stir (ko : PE X o (tVar i)) {j : Nat} {p q : Pos} : PE X (.Subscript o (.Constant (.int 1) j p) q) (rdE X.K h F0 H0 (mStir i)) := pe_w (pe_ix ix_seq ko pe_int (fun _ _ => rfl)) fun σ H Q q => by
  obtain ⟨F, env, s, d, s', ok, e, c⟩ := q
  unfold mStir at e
  split at e
  case isFalse => cases e
  rename_i hi
  cases e
  obtain ⟨a, b, T, hh, e1, e2, e3⟩ := ok.hd0 hi
  exact ⟨_, e1, .inl ⟨a, _, 1, .int s.2, rfl, rfl, .inl (.inl e2), rfl, c _ F H (.refl ok.fh) ok (.int _)⟩⟩
/-- heap[1] = e -/
def mStirSet (i : Nat) (m : EM D) : SM := fun env s => if isHd env i = true then (m env s).bind fun p => (match p.1 with
  | .int t => some (.nx env (p.2.1, t))
  | _ => none) else none
theorem s_stirSet (ko : PE X o (tVar i)) {j : Nat} {p tpos pos : Pos} {e : Expr} {m : EM D} (k : PE X e (rdE X.K h F0 H0 m))
    (ha : ∀ v, assign (.Subscript o (.Constant (.int 1) j p) tpos) X.env v = (do
      let ov ← holding [v] (eval o X.env)
      let iv ← holding [v, ov] (eval (.Constant (.int 1) j p) X.env)
      standAt tpos
      holding [v, ov, iv] (setItem ov iv v)
      release [v, ov, iv] []))
    (hs : swapsWithSole [.Subscript o (.Constant (.int 1) j p) tpos] e pos.line X.env = pure false) (hw : swappedStores [.Subscript o (.Constant (.int 1) j p) tpos] e X.env = pure none)
    (h1 : (assignEach [.Subscript o (.Constant (.int 1) j p) tpos] X.env).map (·.2) = [assign (.Subscript o (.Constant (.int 1) j p) tpos) X.env]) : PS X (.Assign [.Subscript o (.Constant (.int 1) j p) tpos] e pos) (rdS X.K h F0 H0 X.mg W (mStirSet i m)) :=
  ps_w (ps_asg k (pg_sub ko (pe_int (i := 1)) set_list ha) hs hw h1) fun E σ H q => by
    obtain ⟨F, env, s, o, ok, eo, c⟩ := q
    unfold mStirSet at eo
    split at eo
    case isFalse => cases eo
    rename_i hi
    obtain ⟨⟨d1, s1⟩, e0, e4⟩ := bind_some' eo
    clear eo
    dsimp only at e4
    split at e4
    case h_2 => cases e4
    rename_i t
    cases e4
    refine ⟨F, env, s, _, s1, ok, e0, fun v F1 H1 g1 ok1 r1 => ?_⟩
    cases r1
    obtain ⟨a, b, T, hh, e1, e2, e3⟩ := ok1.hd0 hi
    exact ⟨_, e1, a, _, 1, 1, rfl, rfl, e2, rfl, c σ _ F1 g1.ff (ok1.stir hh t)⟩
end
end DL
set_option Elab.async false
set_option linter.all false
set_option maxRecDepth 100000
set_option maxHeartbeats 4000000
/-! DL, part 14: xs[::e], e turning to -1; the draws' lists made. -/
namespace DL
open PySem PySem.Spec PyProof.Rows L2
section
variable {X : Cx} {h : Hd} {F0 H0 : Hp} {W : WX}
theorem pe_revE {e st : Expr} {te ts : TE} {p3 pos : Pos} (he : PE X e te) (ks : PE X st ts) (w : ∀ σ H Q, Q (V.int (-1)) H → ts σ H Q) (hs : PlainIx (.Slice none none (some st) p3)) : PE X (.Subscript e (.Slice none none (some st) p3) pos) (tRevL X.K te) := by
  refine ⟨fun pins s σ H Q I hq => Subscript_ (thn (he.run pins s σ H _ I hq) fun v s1 ⟨x, H1, I1, r1, a, xs, ex, hx, q⟩ => ?_)⟩
  subst ex
  cases r1
  refine wpAny_Slice (thn (po_none.run pins s1 σ H1 (fun o H2 => o = none ∧ H2 = H1) I1 ⟨rfl, rfl⟩) fun vl s2 ⟨l, H2, I2, pl, el, e2⟩ => thn (po_none.run pins s2 σ H2 (fun o H3 => o = none ∧ H3 = H2) I2 ⟨rfl, rfl⟩) fun vu s3 ⟨u, H3, I3, pu, eu, e3⟩ => ?_)
  subst el e2 eu e3
  refine thn ((po_some ks).run pins s3 σ H3 (fun o H4 => o = some (-1) ∧ H4 = H3) I3 (w _ _ _ ⟨-1, rfl, rfl, rfl⟩)) fun vs s4 ⟨o, H4, I4, ps, eo, e4⟩ => ?_
  subst eo e4
  have J : Inv X pins σ H4 { s4 with heap := s4.heap.push { cls := .type "slice", data := .fields #[vl, vu, vs] } } := I4.kept (t' := s4.toks) fun b ob z => Heap.get?_push_of_some _ z
  obtain ⟨its, r, ht, hz⟩ := J.list hx
  refine tail_any (ops := [.ref a, .ref s4.heap.objs.size]) ht.isList.typeIs (PySem.slot_list_getitem.lookup) ?_ (hs _ _)
  refine wpAny_getItem_list_slice ht.isList (Heap.IsSliceOf.new _ vl vu vs) pl pu ps (by decide) ?_ (by rw [List.size_toArray, ← r.length]; exact hz)
  rw [PySem.W.krv_pick]
  exact ⟨.ref _, _, J.laid (t' := s4.toks) (o := .lst xs.reverse) (fun b ob z => Heap.get?_push_of_some _ z) (Nat.le_refl _) ⟨by rw [List.length_reverse]; exact hz, _, 0, r.reverse, Heap.get?_push_size _ rfl⟩, rfl, q _ (J.hok.fresh (Nat.le_refl _))⟩
/-- [..][::0 - 1] of a new list, a new list -/
def mRevL (m : EM (List D)) : EM (List D) := fun env s => (m env s).bind fun p => some (p.1.reverse, p.2)
theorem d_revL {e : Expr} {p3 pos p1 p2 p4 : Pos} {j k : Nat} {m : EM (List D)} (ke : PE X e (rdL X.K h F0 H0 m)) : PE X (.Subscript e (.Slice none none (some (.BinOp (.Constant (.int 0) j p1) .Sub (.Constant (.int 1) k p2) p4)) p3) pos) (rdL X.K h F0 H0 (mRevL m)) :=
  pe_w (pe_revE ke (pe_op op_sub pe_int pe_int) (fun σ H Q q => ⟨0, 1, rfl, rfl, q⟩) (fun _ _ => by with_unfolding_all rfl)) fun σ H Q q => by
    obtain ⟨F, env, s, ds, s', ok, eo, c⟩ := q
    obtain ⟨⟨es, s1⟩, e1, e2⟩ := bind_some' eo
    cases e2
    refine ⟨F, env, s, es, _, ok, e1, fun p vs F1 H1 np nf ep r1 g1 ok1 => ⟨p, vs, rfl, .of ep, fun p2 np2 => ?_⟩⟩
    have n0 : H p2 = none := by
      cases z : H p2 with
      | none => rfl
      | some o => exact absurd np2 (g1.st p2 (by rw [z]; exact fun y => nomatch y))
    exact c p2 _ F1 _ n0 (ok1.fh.free np2) upd_same r1.rev (g1.trans (Gp.own ok1.fh np2).gr) (ok1.gp (Gp.own ok1.fh np2))
end
end DL
set_option Elab.async false
set_option linter.all false
set_option maxRecDepth 100000
set_option maxHeartbeats 4000000
/-! DL, part 15: own exceptions by name; defs whose promise wants the tables. -/
namespace DL
open PySem PySem.Spec PyProof.Rows L2
def ExcOk (P : Program) (w : World) (K : PySem.W.Frag) (mg : Str → Option Value) (base : Heap) (x : Str) : Prop :=
  ∃ (C fI : Addr) (fd : FuncData), mg x = some (.ref C) ∧ OexC K C ∧ PySem.W.findIn K (.ref C) "__init__" = some (some (.ref fI)) ∧ PySem.W.typeIn K (.ref fI) = some (.type "function") ∧ FnOk P w K mg base (L2.CX P w) 1 fI fd ["self", "at"] (spX K C) ∧ Binds K fd ["self", "at"] []
section
variable {X : Cx} {h : Hd} {F0 H0 : Hp} {W : WX}
theorem s_raiseX {x : Str} {m : EM D} {e : Expr} {p pos pos' : Pos} (R : ExcOk X.prog X.w X.K X.mg X.base x) (hc : X.calm = true) (tk : Takes X W) (hr : Room 2 X.A) (hg : Gl X x) (ke : PE X e (rdE X.K h F0 H0 m))
    (hdb : (x == ("__debug__" : Str)) = false := by decide) (he : starEach [e] X.env = (false, eval e X.env) :: starEach [] X.env := by rfl) (hpl : (backTo pos (starEach [] X.env)).any (·.1) = false := by rfl) :
    PS X (.Raise (some (.Call (.Name x p) [e] [] pos)) none pos') (rdS X.K h F0 H0 X.mg W (mRaise x m)) := by
  obtain ⟨C, fI, fd, hm, T, iC, tI, F1, hb⟩ := R
  exact s_raise hc tk T iC tI F1 hr hb hg hm ke hdb he hpl
end
/-! ### promises that want the tables -/
def spDT (K : PySem.W.Frag) (TT : List (Addr × Str)) (φ : Fn) : Sp := fun vs H Q _ => ∃ (h : Hd) (F : Hp) (ds : List D) (s : S) (d : D) (s' : S), (∃ a b, h = some (a, b, TT)) ∧ Same F H ∧ HdOk h F H s ∧ RepL K h F vs ds ∧ φ ds s = some (d, s') ∧
  ∀ v F' H', Gr h F H F' H' → HdOk h F' H' s' → Rep K h F' v d → Q v H'
structure FcT (P : Program) (w : World) (K : PySem.W.Frag) (mg : Str → Option Value) (base : Heap) (TT : List (Addr × Str)) (k : Nat) (x : Str) (φ : Fn) : Prop where
  ex : ∃ (f : Addr) (fd : FuncData) (ps : List Str), FnOk P w K mg base CX0 k f fd ps (spDT K TT φ) ∧ mg x = some (.ref f) ∧ PySem.W.keepIn K (.ref f) = true ∧ Binds K fd ps []
theorem fn_okT {P : Program} {w : World} {K : PySem.W.Frag} {mg : Str → Option Value} {base : Heap} {x qual : Str} {prm : Arguments} {bd : List Stmt} {scope : Scope} {dvs : List V} {kws : List (Str × V)} {f : Addr} {fd : FuncData} {N ps : List Str} {k : Nat} {m : SM} {TT : List (Addr × Str)}
    (F : FunD K x qual prm bd scope dvs kws f fd) (Sc : FnScope N ps scope) (hl : ps.length ≤ N.length)
    (hb : ∀ (cdv : Value) (oc : Value) (od : Option Addr) (dV kV doc pm : Value) (an : Option Addr) (ct : Value) (osl : Array (Option Value)), fd = PySem.W.fnOf x qual prm bd scope dV kV doc pm an cdv ct → K.lookup f = some ⟨oc, od, .func fd, osl⟩ →
      ∀ (h : Hd) (F0 H0 : Hp) (A : Around) (outer : List PySem.Env) (s : Shared) (H : Hp) (E : XK), (∃ a b, h = some (a, b, TT)) → Mod K mg base → Room k (A.deeper (envOfC qual scope s.heap.objs.size f cdv)) →
      PSs (cxOf CX0 P w K mg base N qual scope f cdv A outer s H E).nox bd (rdS K h F0 H0 mg (fun _ _ _ _ => False) m)) : FnOk P w K mg base CX0 (k + 1) f fd ps (spDT K TT (mFun ps.length N.length m)) := by
  have hlen : ∀ (φ : D × S) (ds : List D) (s : S), mFun ps.length N.length m ds s = some φ → ds.length = ps.length := fun φ ds s e => by
    unfold mFun at e
    split at e
    · assumption
    · cases e
  obtain ⟨oc, od, dV, kV, doc, pm, an, cdv, ct, osl, rfl, lk, hcd, _, _⟩ := F.ex
  have HB := hb cdv oc od dV kV doc pm an ct osl rfl lk
  refine ⟨fun vs H Q E q => ?_, fun A outer s H ar us vs Q E room e0 hbi r hsp => ?_⟩
  · obtain ⟨h, F, ds, s, d, s', _, _, _, r, e, _⟩ := q
    rw [r.len]
    exact hlen _ _ _ e
  · have go : ∀ (A : Around) (outer : List PySem.Env) (s : Shared) (H : Hp) (vs : List V) (Q : VK) (E : XK), Mod K mg base → Room k (A.deeper (envOfC qual scope s.heap.objs.size f cdv)) → spDT K TT (mFun ps.length N.length m) vs H Q E →
        ∃ t, PSs (cxOf CX0 P w K mg base N qual scope f cdv A outer s H E) bd t ∧ t { nx := fun _ H' => Q .non H', rt := Q } (L2.start N vs) H := fun A outer s H vs Q E md hr q => by
      obtain ⟨h, F0, ds, s0, d, s', hh, sm, hd, r, e, c⟩ := q
      have el := hlen _ _ _ e
      unfold mFun at e
      rw [if_pos el] at e
      obtain ⟨o, e1, e2⟩ := bind_some' e
      refine ⟨_, (HB h F0 H A outer s H E hh md hr).nox, F0, _, s0, o, ok_start hl sm hd r el, e1, ?_⟩
      cases o with
      | nx env s1 =>
        cases e2
        exact fun σ H1 F1 _ ok1 => c _ F1 H1 ok1.gr ok1.hd .non
      | rt d s1 =>
        cases e2
        exact fun v H1 F1 g1 hd1 r1 => c v F1 H1 g1 hd1 r1
      | bk _ _ => cases e2
      | ct _ _ => cases e2
      | er _ _ _ _ => cases e2
    have G : FnOk P w K mg base CX0 (k + 1) f (PySem.W.fnOf x qual prm bd scope dV kV doc pm an cdv ct) ps (fun vs H Q E => Mod K mg base ∧ spDT K TT (mFun ps.length N.length m) vs H Q E) :=
      fn_of lk hcd Sc (fun vs H Q E q => by
        obtain ⟨_, h, F, ds, s, d, s', _, _, _, r, e, _⟩ := q
        rw [r.len]
        exact hlen _ _ _ e) fun A outer s H vs Q E hr q => go A outer s H vs Q E q.1 hr q.2
    exact G.run A outer s H ar us vs Q E room e0 hbi r ⟨e0.mod, hsp⟩
section
variable {X : Cx} {h : Hd} {F0 H0 : Hp}
theorem d_callT {TT : List (Addr × Str)} {x : Str} {e : Expr} {es : List Expr} {p pos : Pos} {k : Nat} {φ : Fn} {ma : EM (List D)} (c : FcT X.prog X.w X.K X.mg X.base TT k x φ) (hh : ∃ a b, h = some (a, b, TT)) (hr : Room k X.A) (hg : Gl X x) (ka : PA X (e :: es) (rdA X.K h F0 H0 ma)) (hdb : (x == ("__debug__" : Str)) = false := by decide)
    (he : starEach (e :: es) X.env = (false, eval e X.env) :: starEach es X.env := by rfl) (hpl : (backTo pos (starEach es X.env)).any (·.1) = false := by rfl) : PE X (.Call (.Name x p) (e :: es) [] pos) (rdE X.K h F0 H0 (mCall φ ma)) := by
  obtain ⟨f, fd, ps, G, hm, hk, hb⟩ := c.ex
  refine pe_w (pe_call G hr hg hm hk hb .nil pass0 ka hdb he hpl) fun σ H Q q => ?_
  obtain ⟨F, env, s, d, s', ok, e, c⟩ := q
  obtain ⟨⟨ds, s1⟩, e1, e⟩ := bind_some' e
  refine ⟨F, env, s, ds, s1, ok, e1, fun vs F1 H1 g1 ok1 r1 => ?_⟩
  show spDT X.K TT φ (vs ++ []) H1 Q E0
  rw [List.append_nil]
  exact ⟨h, F1, ds, s1, d, s', hh, ok1.fh, ok1.hd, r1, e, fun v F2 H2 g2 hd2 r2 => c v F2 H2 (g1.trans g2) (ok1.grow g2 hd2) r2⟩
end

theorem roomH_units {k : Nat} {A : Around} (r : L2H.RoomH k A) : A.units + 64 < cLine := by have := r.un; omega
section
variable {X : Cx} {h : Hd} {F0 H0 : Hp} {W : WX}
theorem r_callK0 {x : Str} {kws : List Keyword} {p pos : Pos} {k : Nat} {ks : List Str} {g : {α : Type} → List α → List α → List α} {ψ : FnR} {mk : EM (List D)} (tk : Takes X W) (c : FrK X.prog X.w X.K X.mg X.base k x 0 ks g ψ) (G : Gk g) (hr : Room k X.A) (hg : Gl X x)
    (kk : PK X kws (rdA X.K h F0 H0 mk)) (hall : (backToKw pos (keywordEach kws X.env)).all (·.1.isSome) = true := by rfl) (hks : (backToKw pos (keywordEach kws X.env)).filterMap (·.1) = ks := by rfl) (hdb : (x == ("__debug__" : Str)) = false := by decide)
    (hpl : ((backTo pos (starEach [] X.env)).any (·.1) || (backToKw pos (keywordEach kws X.env)).any (·.1.isNone)) = false := by rfl) :
    PE X (.Call (.Name x p) [] kws pos) (rdR X.K h F0 H0 X.mg W (eCallK 0 ks.length g ψ mNil mk)) := by
  obtain ⟨f, fd, ps, F, hm, hk, hb⟩ := c.ex
  refine ⟨fun pins s σ H Q I q => ?_⟩
  obtain ⟨Fk, env, s0, c, d, s', ok, e0, q⟩ := q
  obtain ⟨⟨ds, s1⟩, e1, e0⟩ := bind_some' e0
  cases e1
  obtain ⟨⟨es', s2⟩, e2, e0⟩ := bind_some' e0
  dsimp only at e0
  split at e0
  · rename_i hl
    refine wpAny_Call_Name_kw (ld_glob I hg hm ?_ hdb)
    refine PySem.W.callWith_KW0 (h₀ := X.base) I.ok.mod.kin hk hall ?_ hpl
    refine thn (kk.run pos pins s σ H (fun zs H2 => ∃ F2, Gr h Fk H F2 H2 ∧ Ok X.K h F0 H0 σ H2 F2 env s2 ∧ RepL X.K h F2 zs es') I ⟨Fk, env, s0, es', s2, ok, e2, fun zs F2 H2 g2 ok2 r2 => ⟨F2, g2, ok2, r2⟩⟩) fun ws sb ⟨zs, H2, I2, rz, F2, g2, ok2, r2⟩ => ⟨I2.kIn, ?_⟩
    rw [hks]
    exact run_kR (us := []) (vs := []) (Q := Q) F hr tk hb I2 .nil rz hl.1 (by rw [← Paired.length rz, r2.len]; exact hl.2) (w_spR g2 ok2 (G.rep .nil r2) e0 q)
  · cases e0
end

theorem room_any {k : Nat} {A : Around} {e1 e2 : PySem.Env} (r : Room k (A.deeper e1)) : Room k (A.deeper e2) := ⟨r.hd, r.dp, r.un⟩
theorem takes_lam {X : Cx} {A : Around} {outer : List PySem.Env} {s : Shared} {H : Hp} {E : XK} {sc : Scope} {f c' : Addr} : Takes (LamX.lamCx X A outer s H E sc f c') (fun cls d _ H => E cls d H) := takes_of rfl rfl rfl rfl
end DL
set_option Elab.async false
set_option linter.all false
set_option maxRecDepth 100000
set_option maxHeartbeats 4000000
/-! DL, part 16: // of any size. -/
namespace DL
open PySem PySem.Spec PyProof.Rows L2
/-- what the written part says of the audit hooks and of _pylong -/
structure SeerK (K : PySem.W.Frag) : Prop where
  okS : PySem.W.nsOkIn K cStatics = true
  okM : PySem.W.nsOkIn K sysModules = true
  hooks : PySem.W.nsIn K cStatics "sys.audit-hooks" = some none
  dict : PySem.W.nsIn K cStatics "sys.dict" = some none
  mods : PySem.W.nsIn K sysModules "_pylong" = some none
  main : ∃ bm ob, PySem.W.nsIn K mainGlobals "__builtins__" = some (some (.ref bm)) ∧ K.lookup bm = some ob ∧ ob.cls = .type "module" ∧ ob.dict = some builtinsNs
theorem SeerK.no {K : PySem.W.Frag} {mg : Str → Option Value} {base : Heap} (S : SeerK K) (M : Mod K mg base) : base.NoSeer := by
  obtain ⟨bm, ob, e1, e2, e3, e4⟩ := S.main
  have N1 : base.Ns cStatics (base.nsMap cStatics) := .of_isNs (PySem.W.isNs_of_in M.kin S.okS)
  have N2 : base.Ns sysModules (base.nsMap sysModules) := .of_isNs (PySem.W.isNs_of_in M.kin S.okM)
  exact ⟨⟨_, N1, PySem.W.ns_none_of M.kin N1 S.hooks, PySem.W.ns_none_of M.kin N1 S.dict⟩, ⟨_, N2, PySem.W.ns_none_of M.kin N2 S.mods⟩, M.blt, ⟨mg, bm, ob, M.glob, PySem.W.mg_of M.kin M.glob e1, M.kin _ _ e2, e3, e4⟩⟩
abbrev divP : D → D → Option D := iiD (fun _ j => decide (j ≠ 0)) fun i j => .int (i.fdiv j)
theorem od_divP {K : PySem.W.Frag} : OpD K (rI (fun _ j => j ≠ 0) fun i j => .int (i.fdiv j)) divP := od_I (fun _ _ h => by have q := of_decide_eq_true h; exact q) fun _ _ _ _ => .int _
theorem op_fdivP {X : Cx} {k : Nat} (S : SeerK X.K) (ht : X.prog.given.tree = none) (hs : X.stack = X.env :: X.outer) (hg : X.env.scope.isGenerator = false) (hc : X.env.scope.isCoroutine = false) (hr : Room k X.A) (hk : 32 ≤ k) :
    OpR X (binaryOp .FloorDiv) (rI (fun _ j => j ≠ 0) fun i j => .int (i.fdiv j)) := by
  intro pins s σ H x y v u Q I rx ry h
  obtain ⟨i, j, rfl, rfl, hj, q⟩ := h
  obtain ⟨t, rfl⟩ := rx
  obtain ⟨t', rfl⟩ := ry
  have hd : X.A.depth + Builtin.pylongFrames < recursionLimit := by
    have := hr.dp
    have e : Builtin.pylongFrames = 100 := rfl
    omega
  have fr : X.A.frames = some (X.env :: X.outer) := by rw [I.ok.frames, hs]
  exact floordiv_int hj ⟨.int (i.fdiv j), H, I.tok _, ⟨_, rfl⟩, q⟩ (.inr (PySem.PylongRoom.of I.nolimit hd (PySem.SeerAt.of ((S.no I.mod).keeps I.bk) ht fr hg hc I.ok.blt I.ok.glob)))
end DL
set_option Elab.async false
set_option linter.all false
set_option maxRecDepth 100000
set_option maxHeartbeats 4000000
/-! DL, part 17: what the head tells, as Bools over the fragment; the Hook. -/
namespace DL
open PySem PySem.Spec PyProof.Rows L2 PySem.W He
theorem an {a b : Bool} (h : (a && b) = true) : a = true ∧ b = true := Bool.and_eq_true_iff.mp h
/-! ### an own exception class -/
def isTy : Value → String → Bool
  | .type c, n => decide (c = n)
  | _, _ => false
theorem isTy_ok {v : Value} {n : String} (h : isTy v n = true) : v = .type n := by
  cases v <;> first | (cases h; done) | exact congrArg Value.type (of_decide_eq_true h)
def mroB (C : Addr) : List Value → Bool
  | .ref c :: bm => decide (c = C) && PySem.HandSPX.refsVE bm
  | _ => false
theorem mroB_ok {C : Addr} {l : List Value} (h : mroB C l = true) : ∃ bm, l = .ref C :: bm ∧ PySem.HandSPX.refsVE bm = true := by
  cases l with
  | nil => cases h
  | cons v bm =>
    cases v <;> first | (cases h; done) | skip
    obtain ⟨h1, h2⟩ := an h
    exact ⟨bm, by rw [of_decide_eq_true h1], h2⟩
def sl6 : List (Option Value) → Bool
  | [_, _, _, _, some (.builtin n), _] => decide (n = "ValueError.__new__")
  | _ => false
theorem sl6_ok {l : List (Option Value)} (h : sl6 l = true) : ∃ k0 k1 k2 k3 k5, l = [k0, k1, k2, k3, some (.builtin "ValueError.__new__"), k5] := by
  match l, h with
  | [k0, k1, k2, k3, some (.builtin n), k5], h => exact ⟨k0, k1, k2, k3, k5, by rw [of_decide_eq_true (show decide (n = "ValueError.__new__") = true from h)]⟩
def oexB (K : Frag) (C : Addr) : Bool := match K.lookup C with
  | some ⟨v, _, .cls cd, sl⟩ => isTy v "type" && (mroB C cd.mro && (cd.hasDict && (!cd.hasDel && sl6 sl.toList)))
  | _ => false
theorem oexB_ok {K : Frag} {C : Addr} (h : oexB K C = true) : ∃ nm q N bs bm sn sub ab col dd k0 k1 k2 k3 k5, K.lookup C = some (excClassObj nm q C N bs bm true sn sub ab col dd k0 k1 k2 k3 k5 "ValueError.__new__") ∧ PySem.HandSPX.refsVE bm = true := by
  unfold oexB at h
  split at h
  · rename_i v dd cd sl lk
    obtain ⟨h1, h⟩ := an h
    obtain ⟨h2, h⟩ := an h
    obtain ⟨h3, h⟩ := an h
    obtain ⟨h4, h5⟩ := an h
    obtain ⟨nm, bs, mro, ns, qn, hd, sn, sb, ab, col, del⟩ := cd
    obtain ⟨bm, e2, e3⟩ := mroB_ok h2
    obtain ⟨k0, k1, k2, k3, k5, e5⟩ := sl6_ok h5
    obtain ⟨sl⟩ := sl
    have e1 := isTy_ok h1
    have e4 : del = false := by cases del <;> first | rfl | cases h4
    have e6 : hd = true := h3
    have e2' : mro = .ref C :: bm := e2
    have e5' : sl = [k0, k1, k2, k3, some (.builtin "ValueError.__new__"), k5] := e5
    subst e1 e4 e6 e2' e5'
    exact ⟨nm, qn, ns, bs, bm, sn, sb, ab, col, dd, k0, k1, k2, k3, k5, lk, e3⟩
  · cases h
/-- its __init__: closure, code, file -/
def initB (K : Frag) (file : Str) (C f : Addr) : Bool := match K.lookup f with
  | some ⟨_, _, .func fd, _⟩ => (match fd.closure with
    | [(x, cc)] => decide (x = ("__class__" : Str)) && (match K.lookup cc with
      | some ⟨_, _, .cell (some (.ref D)), _⟩ => decide (D = C)
      | _ => false)
    | _ => false) && ((match fd.defaults with
    | .none => true
    | _ => false) && match fd.code with
    | .ref cda => codeIn K (.ref cda) fd.qualname && (match K.lookup cda with
      | some ⟨_, _, .fields vs, _⟩ => (match (vs[2]? : Option Value) with
        | some (.str fl _) => file == fl
        | _ => false)
      | _ => false)
    | _ => false)
  | _ => false
abbrev InW : Type := Option (Str × Str × Arguments × FuncBody × Scope × Addr × Addr)
def inW (K : Frag) (f : Addr) : InW := match K.lookup f with
  | some ⟨_, _, .func fd, _⟩ => some (fd.name, fd.qualname, fd.params, fd.body, fd.scope, fd.globals, fd.builtins)
  | _ => none
def excB (K : Frag) (file : Str) (C f : Addr) : Bool := oexB K C && (initB K file C f && (decide (findIn K (.ref C) "__setattr__" = some (some (.builtin "object.__setattr__"))) && (decide (subIn K (.ref C) (.type "BaseException") = some true) && (decide (typeIn K (.ref C) = some (.type "type")) && (keepIn K (.ref C) &&
  (decide (mroIn K C (.ref C) = some true) && (decide (nsIn K cStatics "thirdparty.any" = some none) && (decide (ks_superIn K C C "__init__" = some (some (.builtin "ValueError.__init__"))) && (decide (subIn K (.ref C) (.type "ValueError") = some true) &&
  (decide (findIn K (.ref C) "at" = some none) && (decide (findIn K (.ref C) "__init__" = some (some (.ref f))) && decide (typeIn K (.ref f) = some (.type "function")))))))))))))
theorem excB_ok {P : Program} {K : Frag} {C f : Addr} {name qual : Str} {prm : Arguments} {bd : List Stmt} {sc : Scope} (h : excB K P.main.file C f = true) (e : inW K f = some (name, qual, prm, .stmts bd, sc, mainGlobals, builtinsNs)) (top : (P.main.scope.names.lookup ("super" : Str)).isSome = false) :
    ∃ fd, ExcD P K C prm bd sc qual f fd := by
  obtain ⟨h1, h⟩ := an h
  obtain ⟨h2, h⟩ := an h
  obtain ⟨h3, h⟩ := an h
  obtain ⟨h4, h⟩ := an h
  obtain ⟨h5, h⟩ := an h
  obtain ⟨h6, h⟩ := an h
  obtain ⟨h7, h⟩ := an h
  obtain ⟨h8, h⟩ := an h
  obtain ⟨h9, h⟩ := an h
  obtain ⟨h10, h⟩ := an h
  obtain ⟨h11, h⟩ := an h
  obtain ⟨h12, h13⟩ := an h
  unfold initB at h2
  unfold inW at e
  split at h2
  · rename_i oc od fd osl lk
    rw [lk] at e
    obtain ⟨n1, n2, n3, n4, n5, n6, n7, n8, n9, n10, n11, n12, n13, n14, n15⟩ := fd
    have e2 : (some (n1, n2, n3, n4, n5, n6, n15) : InW) = some (name, qual, prm, .stmts bd, sc, mainGlobals, builtinsNs) := e
    simp only [Option.some.injEq, Prod.mk.injEq] at e2
    obtain ⟨a1, a2, a3, a4, a5, a6, a7⟩ := e2
    subst a1 a2 a3 a4 a5 a6 a7
    obtain ⟨b1, b2o⟩ := an h2
    obtain ⟨b0, b2⟩ := an b2o
    clear b2o h2 e
    dsimp only at b0 b1 b2
    have hdv : n8 = .none := by
      split at b0
      · rfl
      · cases b0
    subst hdv
    split at b1
    · rename_i x cc
      obtain ⟨b3, b4⟩ := an b1
      have ex := of_decide_eq_true b3
      subst ex
      split at b4
      · rename_i cl cld D csl lc
        have eD := of_decide_eq_true b4
        subst eD
        split at b2
        · rename_i cda
          obtain ⟨b5, b6⟩ := an b2
          split at b6
          · rename_i ccl cdd vs ccs lcd
            split at b6
            · rename_i fl tf hvs
              obtain ⟨nm, q, N, bs, bm, sn, sub, ab, col, dd, k0, k1, k2, k3, k5, hC, hbm⟩ := oexB_ok h1
              exact ⟨_, ⟨⟨n1, .none, n9, n10, n11, n12, cda, n14, cc, oc, od, osl, rfl, lk, b5, ⟨ccl, cdd, vs, ccs, fl, tf, lcd, hvs, b6⟩, ⟨cl, cld, csl, lc⟩⟩,
                rfl, ⟨_, by unfold clsIn; rw [hC]⟩, of_decide_eq_true h7, of_decide_eq_true h8, of_decide_eq_true h9, of_decide_eq_true h10,
                ⟨⟨nm, q, N, bs, bm, sn, sub, ab, col, dd, k0, k1, k2, k3, k5, hC, hbm⟩, of_decide_eq_true h3, of_decide_eq_true h4, of_decide_eq_true h5, h6⟩, of_decide_eq_true h11, of_decide_eq_true h12, of_decide_eq_true h13, top⟩⟩
            · cases b6
          · cases b6
        · cases b2
      · cases b4
    · cases b1
  · cases h2

/-! ### the Hook: facts by names, defs, own __init__, one more Bool; empty tables left out; the statics and sys.modules looked at too -/
abbrev AlY : Type := AlD × List InW × Bool
def frY (n : Nat) (g : Addr → Option Obj) : Frag := frT g (asD g n ++ [cStatics, sysModules])
def obsYK (fa : List Fa) (fn : List DefD) (tf : List Defn) (ins : List Str) (ex : Frag → Bool) (g : Addr → Option Obj) (K : Frag) : AlY := (obsD fa fn K, ins.map (fun x => inW K (ma K (ga K x) "__init__")), ex K && tabsB g tf K)
def obsY (n : Nat) (fa : List Fa) (fn : List DefD) (tf : List Defn) (ins : List Str) (ex : Frag → Bool) (g : Addr → Option Obj) : AlY := obsYK fa fn tf ins ex g (frY n g)
structure SaysY (fa : List Fa) (fn : List DefD) (tf : List Defn) (ins : List Str) (vals : List InW) (ex : Frag → Bool) (h : Heap) (K : Frag) : Prop where
  d : SaysD fa fn K
  i : ins.map (fun x => inW K (ma K (ga K x) "__init__")) = vals
  more : ex K = true
  hd : ∀ p ∈ tf, codeHdIn K (cT K p).1 (cT K p).2 = true
  out : ∀ p ∈ tf, K.lookup (cT K p).2 = none
  empty : ∀ p ∈ tf, h.get? (cT K p).2 = some { cls := .none, data := .fields #[] }
theorem saysY_of {n : Nat} {fa : List Fa} {fn : List DefD} {tf : List Defn} {ins : List Str} {vals : List InW} {ex : Frag → Bool} {h : Heap} (e : obsY n fa fn tf ins ex h.get? = (valD fn, vals, true)) : SaysY fa fn tf ins vals ex h (frY n h.get?) := by
  have e1 : obsD fa fn (frY n h.get?) = valD fn := congrArg (fun z : AlY => z.1) e
  have e2 : ins.map (fun x => inW (frY n h.get?) (ma (frY n h.get?) (ga (frY n h.get?) x) "__init__")) = vals := congrArg (fun z : AlY => z.2.1) e
  obtain ⟨h1, h2⟩ := an (show (ex (frY n h.get?) && tabsB h.get? tf (frY n h.get?)) = true from congrArg (fun z : AlY => z.2.2) e)
  have key : ∀ p ∈ tf, codeHdIn (frY n h.get?) (cT (frY n h.get?) p).1 (cT (frY n h.get?) p).2 = true ∧ ∃ o, h.get? (cT (frY n h.get?) p).2 = some o ∧ emptyTab o = true := fun p hp => by
    obtain ⟨q1, q2⟩ := an (List.all_eq_true.mp h2 p hp)
    refine ⟨q1, ?_⟩
    cases y : h.get? (cT (frY n h.get?) p).2 with
    | none => rw [y] at q2; cases q2
    | some o => rw [y] at q2; exact ⟨o, rfl, q2⟩
  refine ⟨e1, e2, h1, fun p hp => (key p hp).1, fun p hp => ?_, fun p hp => ?_⟩
  · obtain ⟨_, o, q, z⟩ := key p hp
    exact frT_none q z
  · obtain ⟨_, o, q, z⟩ := key p hp
    rw [q, emptyTab_eq z]
def hookY (n : Nat) (fa : List Fa) (fn : List DefD) (tf : List Defn) (ins : List Str) (vals : List InW) (ex : Frag → Bool) : Hook where
  α := AlY
  obs := fun s => obsY n fa fn tf ins ex s.heap.get?
  val := fun _ => (valD fn, vals, true)
  says := fun _ h => ∃ K : Frag, K.In h ∧ SaysY fa fn tf ins vals ex h K
  of := fun _ _ e => ⟨_, frT_in, saysY_of e⟩
  keeps := fun _ _ _ ⟨K, hK, c⟩ k => ⟨K, Frag.In.keeps hK k, ⟨c.d, c.i, c.more, c.hd, c.out, fun p hp => k _ _ (c.empty p hp)⟩⟩
theorem obsY_eq {n : Nat} {fa : List Fa} {fn : List DefD} {tf : List Defn} {ins : List Str} {vals : List InW} {ex : Frag → Bool} {g : Addr → Option Obj} {s : Shared} (h : ∀ a, g a = s.heap.get? a) : obsY n fa fn tf ins ex g = (hookY n fa fn tf ins vals ex).obs s := by
  have e : g = s.heap.get? := funext h
  rw [e]
  rfl
/-! ### what is made of the Bools -/
def seerB (K : Frag) : Bool := nsOkIn K cStatics && (nsOkIn K sysModules && (decide (nsIn K cStatics "sys.audit-hooks" = some none) && (decide (nsIn K cStatics "sys.dict" = some none) && (decide (nsIn K sysModules "_pylong" = some none) && (match nsIn K mainGlobals "__builtins__" with
  | some (some (.ref bm)) => (match K.lookup bm with
    | some ⟨v, d, _, _⟩ => isTy v "module" && decide (d = some builtinsNs)
    | _ => false)
  | _ => false)))))
theorem seerB_ok {K : Frag} (h : seerB K = true) : SeerK K := by
  obtain ⟨h1, h⟩ := an h
  obtain ⟨h2, h⟩ := an h
  obtain ⟨h3, h⟩ := an h
  obtain ⟨h4, h⟩ := an h
  obtain ⟨h5, h⟩ := an h
  refine ⟨h1, h2, of_decide_eq_true h3, of_decide_eq_true h4, of_decide_eq_true h5, ?_⟩
  split at h
  · rename_i bm e
    split at h
    · rename_i v d dt sl lk
      obtain ⟨a, b⟩ := an h
      exact ⟨bm, _, e, lk, isTy_ok a, of_decide_eq_true b⟩
    · cases h
  · cases h
def ecB (K : Frag) (D : Addr) : Bool := decide (findIn K (.ref D) "__getattribute__" = some (some (.builtin "BaseException.__getattribute__"))) && (decide (findIn K (.ref D) "__getattr__" = some none) && (decide (subIn K (.ref D) (.type "BaseException") = some true) && (hasDictIn K D &&
  (decide (findIn K (.ref D) "__class__" = some (some (.builtin "object.__class__"))) && (decide (specialIn K (.builtin "object.__class__") "__get__" = some (some (.builtin "getset_descriptor.__get__"))) && (decide (takesIn K (.builtin "object.__class__") = some true) && decide (mroIn K D (.type "object") = some true)))))))
theorem ecB_ok {K : Frag} {D : Addr} (h : ecB K D = true) : ExcC K D := by
  obtain ⟨h1, h⟩ := an h
  obtain ⟨h2, h⟩ := an h
  obtain ⟨h3, h⟩ := an h
  obtain ⟨h4, h⟩ := an h
  obtain ⟨h5, h⟩ := an h
  obtain ⟨h6, h⟩ := an h
  obtain ⟨h7, h8⟩ := an h
  exact ⟨of_decide_eq_true h1, of_decide_eq_true h2, of_decide_eq_true h3, h4, of_decide_eq_true h5, of_decide_eq_true h6, of_decide_eq_true h7, of_decide_eq_true h8⟩
end DL
set_option Elab.async false
set_option linter.all false
set_option maxRecDepth 100000
set_option maxHeartbeats 4000000
namespace DL
open PySem PySem.Spec PyProof.Rows L2
def top (i : Nat) : Stmt := PySem.Challenge.pw_shrinksanyhow_k00_whole_fractions_by_clo.main.body.getD i (.Pass ⟨0, 0, 0, 0⟩)
abbrev s_is_integer : Stmt := top 5
abbrev s_divisor_of : Stmt := top 7
abbrev s_is_fraction : Stmt := top 8
abbrev s_lowest : Stmt := top 9
abbrev s_frac : Stmt := top 10
abbrev s_added : Stmt := top 11
abbrev s_less : Stmt := top 12
abbrev s_times : Stmt := top 13
abbrev s_over : Stmt := top 14
abbrev s_compared : Stmt := top 15
abbrev s_size_of : Stmt := top 16
abbrev s_greatest_of : Stmt := top 17
abbrev s_least_of : Stmt := top 18
abbrev s_sum_of : Stmt := top 19
abbrev s_floor_of : Stmt := top 20
abbrev s_down_to : Stmt := top 21
abbrev s__law_heap : Stmt := top 23
abbrev s__law_draw : Stmt := top 24
abbrev s__law_pick : Stmt := top 25
abbrev s__law_same : Stmt := top 26
abbrev s__law_refused : Stmt := top 27
abbrev s__law_gcd : Stmt := top 28
abbrev s__law_frac : Stmt := top 29
abbrev s__law_is_frac : Stmt := top 30
abbrev s__law_quotients : Stmt := top 31
abbrev s__law_neighbours : Stmt := top 32
abbrev s__law_turned : Stmt := top 33
abbrev s__law_back : Stmt := top 34
abbrev s__law_neighbours_right : Stmt := top 35
abbrev s__law_forms_right : Stmt := top 36
abbrev s__law_rows_right : Stmt := top 37
abbrev s__law_down_right : Stmt := top 38
abbrev s__law_wrong_right : Stmt := top 39
abbrev s_law : Stmt := top 40
structure Txt (P : Program) (w : World) (K : PySem.W.Frag) (mg : Str → Option Value) (base : Heap) : Prop where
  tree : P.given.tree = none
  seer : SeerK K
  cR : ∃ C, mg "Refused" = some (.ref C) ∧ XfC K C ∧ PySem.W.findIn K (.ref C) "at" = some none ∧ PySem.W.exmOne K (.ref C) (.ref C) = some true
  t_InvalidFraction : ∃ C, mg "InvalidFraction" = some (.ref C) ∧ XfC K C ∧ PySem.W.findIn K (.ref C) "at" = some none ∧ PySem.W.exmOne K (.ref C) (.ref C) = some true ∧ ExcC K C ∧ (∃ C1, mg "ShrinksError" = some (.ref C1) ∧ PySem.W.kitOne K (.ref C) (.ref C1) = some true) ∧ (∃ C2, mg "Refused" = some (.ref C2) ∧ PySem.W.kitOne K (.ref C) (.ref C2) = some false)
  x_Refused : ExcOk P w K mg base "Refused"
  x_InvalidFraction : ExcOk P w K mg base "InvalidFraction"
  d_is_integer : ∃ f fd, FunD K "is_integer" "is_integer" (defArgs s_is_integer) (defBody s_is_integer) (defScope s_is_integer) [] [] f fd ∧ mg "is_integer" = some (.ref f)
  d_divisor_of : ∃ f fd, FunD K "divisor_of" "divisor_of" (defArgs s_divisor_of) (defBody s_divisor_of) (defScope s_divisor_of) [] [] f fd ∧ mg "divisor_of" = some (.ref f)
  d_is_fraction : ∃ f fd, FunD K "is_fraction" "is_fraction" (defArgs s_is_fraction) (defBody s_is_fraction) (defScope s_is_fraction) [] [] f fd ∧ mg "is_fraction" = some (.ref f)
  d_lowest : ∃ f fd, FunD K "lowest" "lowest" (defArgs s_lowest) (defBody s_lowest) (defScope s_lowest) [] [] f fd ∧ mg "lowest" = some (.ref f)
  d_frac : ∃ f fd, FunD K "frac" "frac" (defArgs s_frac) (defBody s_frac) (defScope s_frac) [] [] f fd ∧ mg "frac" = some (.ref f)
  d_added : ∃ f fd, FunD K "added" "added" (defArgs s_added) (defBody s_added) (defScope s_added) [] [] f fd ∧ mg "added" = some (.ref f)
  d_less : ∃ f fd, FunD K "less" "less" (defArgs s_less) (defBody s_less) (defScope s_less) [] [] f fd ∧ mg "less" = some (.ref f)
  d_times : ∃ f fd, FunD K "times" "times" (defArgs s_times) (defBody s_times) (defScope s_times) [] [] f fd ∧ mg "times" = some (.ref f)
  d_over : ∃ f fd, FunD K "over" "over" (defArgs s_over) (defBody s_over) (defScope s_over) [] [] f fd ∧ mg "over" = some (.ref f)
  d_compared : ∃ f fd, FunD K "compared" "compared" (defArgs s_compared) (defBody s_compared) (defScope s_compared) [] [] f fd ∧ mg "compared" = some (.ref f)
  d_size_of : ∃ f fd, FunD K "size_of" "size_of" (defArgs s_size_of) (defBody s_size_of) (defScope s_size_of) [] [] f fd ∧ mg "size_of" = some (.ref f)
  d_greatest_of : ∃ f fd, FunD K "greatest_of" "greatest_of" (defArgs s_greatest_of) (defBody s_greatest_of) (defScope s_greatest_of) [] [] f fd ∧ mg "greatest_of" = some (.ref f)
  d_least_of : ∃ f fd, FunD K "least_of" "least_of" (defArgs s_least_of) (defBody s_least_of) (defScope s_least_of) [] [] f fd ∧ mg "least_of" = some (.ref f)
  d_sum_of : ∃ f fd, FunD K "sum_of" "sum_of" (defArgs s_sum_of) (defBody s_sum_of) (defScope s_sum_of) [] [] f fd ∧ mg "sum_of" = some (.ref f)
  d_floor_of : ∃ f fd, FunD K "floor_of" "floor_of" (defArgs s_floor_of) (defBody s_floor_of) (defScope s_floor_of) [] [] f fd ∧ mg "floor_of" = some (.ref f)
  d_down_to : ∃ f fd, FunD K "down_to" "down_to" (defArgs s_down_to) (defBody s_down_to) (defScope s_down_to) [] [] f fd ∧ mg "down_to" = some (.ref f)
  d__law_heap : ∃ f fd, FunD K "_law_heap" "_law_heap" (defArgs s__law_heap) (defBody s__law_heap) (defScope s__law_heap) [] [] f fd ∧ mg "_law_heap" = some (.ref f)
  d__law_draw : ∃ f fd, FunD K "_law_draw" "_law_draw" (defArgs s__law_draw) (defBody s__law_draw) (defScope s__law_draw) [] [] f fd ∧ mg "_law_draw" = some (.ref f)
  d__law_pick : ∃ f fd, FunD K "_law_pick" "_law_pick" (defArgs s__law_pick) (defBody s__law_pick) (defScope s__law_pick) [] [] f fd ∧ mg "_law_pick" = some (.ref f)
  d__law_same : ∃ f fd, FunD K "_law_same" "_law_same" (defArgs s__law_same) (defBody s__law_same) (defScope s__law_same) [] [] f fd ∧ mg "_law_same" = some (.ref f)
  d__law_refused : ∃ f fd, FunD K "_law_refused" "_law_refused" (defArgs s__law_refused) (defBody s__law_refused) (defScope s__law_refused) [] [] f fd ∧ mg "_law_refused" = some (.ref f)
  d__law_gcd : ∃ f fd, FunD K "_law_gcd" "_law_gcd" (defArgs s__law_gcd) (defBody s__law_gcd) (defScope s__law_gcd) [] [] f fd ∧ mg "_law_gcd" = some (.ref f)
  d__law_frac : ∃ f fd, FunD K "_law_frac" "_law_frac" (defArgs s__law_frac) (defBody s__law_frac) (defScope s__law_frac) [] [] f fd ∧ mg "_law_frac" = some (.ref f)
  d__law_is_frac : ∃ f fd, FunD K "_law_is_frac" "_law_is_frac" (defArgs s__law_is_frac) (defBody s__law_is_frac) (defScope s__law_is_frac) [] [] f fd ∧ mg "_law_is_frac" = some (.ref f)
  d__law_quotients : ∃ f fd, FunD K "_law_quotients" "_law_quotients" (defArgs s__law_quotients) (defBody s__law_quotients) (defScope s__law_quotients) [] [] f fd ∧ mg "_law_quotients" = some (.ref f)
  d__law_neighbours : ∃ f fd, FunD K "_law_neighbours" "_law_neighbours" (defArgs s__law_neighbours) (defBody s__law_neighbours) (defScope s__law_neighbours) [] [] f fd ∧ mg "_law_neighbours" = some (.ref f)
  d__law_turned : ∃ f fd, FunD K "_law_turned" "_law_turned" (defArgs s__law_turned) (defBody s__law_turned) (defScope s__law_turned) [] [] f fd ∧ mg "_law_turned" = some (.ref f)
  d__law_back : ∃ f fd, FunD K "_law_back" "_law_back" (defArgs s__law_back) (defBody s__law_back) (defScope s__law_back) [] [] f fd ∧ mg "_law_back" = some (.ref f)
  d__law_neighbours_right : ∃ f fd, FunD K "_law_neighbours_right" "_law_neighbours_right" (defArgs s__law_neighbours_right) (defBody s__law_neighbours_right) (defScope s__law_neighbours_right) [] [] f fd ∧ mg "_law_neighbours_right" = some (.ref f)
  d__law_forms_right : ∃ f fd, FunD K "_law_forms_right" "_law_forms_right" (defArgs s__law_forms_right) (defBody s__law_forms_right) (defScope s__law_forms_right) [] [] f fd ∧ mg "_law_forms_right" = some (.ref f)
  d__law_rows_right : ∃ f fd, FunD K "_law_rows_right" "_law_rows_right" (defArgs s__law_rows_right) (defBody s__law_rows_right) (defScope s__law_rows_right) [] [] f fd ∧ mg "_law_rows_right" = some (.ref f)
  d__law_down_right : ∃ f fd, FunD K "_law_down_right" "_law_down_right" (defArgs s__law_down_right) (defBody s__law_down_right) (defScope s__law_down_right) [] [] f fd ∧ mg "_law_down_right" = some (.ref f)
  d__law_wrong_right : ∃ f fd, FunD K "_law_wrong_right" "_law_wrong_right" (defArgs s__law_wrong_right) (defBody s__law_wrong_right) (defScope s__law_wrong_right) [] [] f fd ∧ mg "_law_wrong_right" = some (.ref f)
  d_law : ∃ f fd, FunD K "law" "law" (defArgs s_law) (defBody s_law) (defScope s_law) [] [] f fd ∧ mg "law" = some (.ref f)
  b_ValueError : mg "ValueError" = none
  b_abs : mg "abs" = none
  b_all : mg "all" = none
  b_bool : mg "bool" = none
  b_enumerate : mg "enumerate" = none
  b_int : mg "int" = none
  b_isinstance : mg "isinstance" = none
  b_len : mg "len" = none
  b_list : mg "list" = none
  b_range : mg "range" = none
  b_str : mg "str" = none
  b_super : mg "super" = none
  b_tuple : mg "tuple" = none
section
variable {P : Program} {w : World} {K : PySem.W.Frag} {mg : Str → Option Value} {base : Heap}
theorem sc__law_draw : FnScope ["heap", "many", "rest"] ["heap", "many"] (defScope s__law_draw) := ⟨rfl, rfl, rfl, by decide +kernel, rfl, by decide +kernel, by decide +kernel⟩
noncomputable def m__law_draw : SM := (mSeq (mWhile (tmAnd (tmCells 0) (mT (mOp eqD (mCellAt 0 (mUn negD (mC (.int 1)))) (mC (.int 0))))) (mPopS 0))
  (mSeq (mIte (tmCells 0) (mSeq (mPopSet 0 2) (mSeq (mCellApp 0 (mOp divD (mVar 2) (mVar 1))) (mRet (mOp modD (mB intD (mCons (mVar 2) mNil)) (mVar 1))))) mNext)
  (mSeq (mStirSet 0 (mOp modD (mB intD (mCons (mOp addD (mOp mulD (mStir 0) (mC (.int 48271))) (mC (.int 29))) mNil)) (mC (.int 2147483647))))
  (mRet (mOp modD (mB intD (mCons (mOp divD (mStir 0) (mC (.int 32))) mNil)) (mVar 1))))))
noncomputable def φ__law_draw : Fn := mFun 2 3 m__law_draw
theorem ok__law_draw (T : Txt P w K mg base) {f : Addr} {fd : FuncData} (F : FunD K "_law_draw" "_law_draw" (defArgs s__law_draw) (defBody s__law_draw) (defScope s__law_draw) [] [] f fd) : FnOk P w K mg base CX0 1 f fd ["heap", "many"] (spD K φ__law_draw) :=
  fn_ok (N := ["heap", "many", "rest"]) (k := 0) (m := m__law_draw) F sc__law_draw (by decide) fun h F0 H0 cdv A outer s H E hr =>
    (s_cons (s_while PassesOwn.never (PW.pt (d_and (d_cellsNe (i := 0) (pv 0) hr.units) (d_and1 (d_tcmp od_eq (op_eqD hr.units) (d_cellAt (i := 0) (pv 0) (d_un ud_neg un_neg d_int) (fun _ _ => rfl)) d_int)))) (s_one (s_popS (i := 0) (pv 0) rfl rfl)))
    (s_cons (s_if (d_cellsNe (i := 0) (pv 0) hr.units) (s_cons (s_popSet (i := 0) (k := 2) (pv 0) rfl sc__law_draw.nd rfl (.inl rfl) rfl (.inl rfl)) (s_cons (s_cellApp (i := 0) (pv 0) (d_bin od_div op_fdivG (d_of_var (pv 2)) (d_of_var (pv 1))) rfl rfl rfl rfl rfl) (s_one (s_ret (d_bin od_mod op_modN (d_ty ca_int call_int1 rfl T.b_int (by decide +kernel) (d_cons (d_of_var (pv 2)) d_nil)) (d_of_var (pv 1))))))) s_nil)
    (s_cons (s_stirSet (i := 0) (pv 0) (d_bin od_mod op_modN (d_ty ca_int call_int1 rfl T.b_int (by decide +kernel) (d_cons (d_bin od_add op_addA (d_bin od_mul op_mulA (d_stir (i := 0) (pv 0)) d_int) d_int) d_nil)) d_int) (by intro _; rfl) rfl rfl rfl)
    (s_one (s_ret (d_bin od_mod op_modN (d_ty ca_int call_int1 rfl T.b_int (by decide +kernel) (d_cons (d_bin od_div op_fdivG (d_stir (i := 0) (pv 0)) d_int) d_nil)) (d_of_var (pv 1))))))))
theorem c__law_draw (T : Txt P w K mg base) : Fc P w K mg base 1 "_law_draw" φ__law_draw := by
  obtain ⟨f, fd, F, g⟩ := T.d__law_draw
  exact fc_of (ok__law_draw T F) g F.kp (F.bindsN fun _ _ _ _ _ _ us hl => match us, hl with | [_, _], _ => rfl)
def mulS : D → D → Option D := iiD (fun i j => decide ((-(2 ^ 64) < i ∧ i < 2 ^ 64) ∨ (-(2 ^ 64) < j ∧ j < 2 ^ 64))) fun i j => .int (i * j)
theorem od_mulS {K : PySem.W.Frag} : OpD K (rI CMul fun i j => .int (i * j)) mulS := od_I (fun _ _ h => by have q := of_decide_eq_true h; exact q) fun _ _ _ _ => .int _
theorem sc__law_heap : FnScope ["script", "cell", "cells", "stir"] ["script"] (defScope s__law_heap) := ⟨rfl, rfl, rfl, by decide +kernel, rfl, by decide +kernel, by decide +kernel⟩
noncomputable def m1_heap : SM := (mPar2 2 3 (mmL ((mLc (mItems (mSl (mVar 0) moN (moI (mC (.int 63))))) [1] (gN 1) tYesD (mOp addD (mOp mulS (mC (.int 2)) (mB absD (mCons (mVar 1) mNil))) (mB intD (mCons (mOp ltD (mVar 1) (mC (.int 0))) mNil))))) (mmE (mC (.int 15811)) mmNil)))
noncomputable def m2_heap : SM := (mFrz 2 (mFor (mItems (mVar 2)) (gN 1)
    (mSet 3 (mOp modD (mB intD (mCons (mOp addD (mOp addD (mOp mulD (mVar 3) (mC (.int 69621))) (mOp modD (mB intD (mCons (mVar 1) mNil)) (mC (.int 2147483563)))) (mC (.int 43))) mNil)) (mC (.int 2147483647))))))
noncomputable def mL_heap : EM (List D) := (mRevL (mLc (mItems (mVar 2)) [1] (gN 1) (mT (mOp geD (mVar 1) (mOp powD (mC (.int 10)) (mC (.int 18))))) (mOp modD (mB intD (mCons (mVar 1) mNil)) (mOp mulD (mOp mulD (mOp mulD (mOp powD (mC (.int 10)) (mC (.int 60))) (mOp powD (mC (.int 10)) (mC (.int 60)))) (mOp powD (mC (.int 10)) (mC (.int 60)))) (mOp powD (mC (.int 10)) (mC (.int 60)))))))
def spHeap (K : PySem.W.Frag) : Sp := fun vs H Q _ => ∃ (F : Hp) (a : Addr) (ns : List Int) (env1 env2 : Env) (s1 s2 s3 : S) (st : Int) (cs : List Int), vs = [.ref a] ∧ Same F H ∧ SqL K F a (ns.map V.int) ∧ m1_heap [.im (.dict [(.none, .list (ns.map PyData.int))]), .un, .un, .un] ([], 0) = some (.nx env1 s1) ∧
  m2_heap env1 s1 = some (.nx env2 s2) ∧ mL_heap env2 s2 = some (cs.map PyData.int, s3) ∧ env2[3]? = some (.im (.int st)) ∧
  ∀ p q F' H', Gr none F H F' H' → p ≠ q → H p = none → H q = none → F' p = none → F' q = none → H' p = some (.lst [.ref q, .int st]) → H' q = some (.lst (cs.map V.int)) → Q (.ref p) H'
theorem ints_of {K : PySem.W.Frag} {h : Hd} {F : Hp} : ∀ {cs : List Int} {vs : List V}, RepL K h F vs (cs.map PyData.int) → vs = cs.map V.int
  | [], _, .nil => rfl
  | c :: cs, _, .cons (.int _) r => by rw [ints_of r]; rfl
theorem ok__law_heap (T : Txt P w K mg base) {f : Addr} {fd : FuncData} (F : FunD K "_law_heap" "_law_heap" (defArgs s__law_heap) (defBody s__law_heap) (defScope s__law_heap) [] [] f fd) : FnOk P w K mg base CX0 1 f fd ["script"] (spHeap K) := by
  refine F.ok sc__law_heap (fun vs H Q E q => ?_) (fun cdv A outer s H vs Q E hr q => ?_)
  · obtain ⟨F, a, ns, _, _, _, _, _, _, _, rfl, _⟩ := q
    rfl
  · obtain ⟨F0, a, ns, env1, env2, s1, s2, s3, st, cs, rfl, sm, sq, em1, em2, em3, e3, c⟩ := q
    have k : PSs (cxOf CX0 P w K mg base ["script", "cell", "cells", "stir"] "_law_heap" (defScope s__law_heap) f cdv A outer s H E).nox (defBody s__law_heap) (tSeq (rdS K none F0 H mg (fun _ _ _ _ => False) m1_heap) (tSeq (rdS K none F0 H mg (fun _ _ _ _ => False) m2_heap)
        (tRet (tLst (tCons (rdL K none F0 H mL_heap) (tCons (rdE K none F0 H (mVar 3)) tNil)))))) :=
      pss_cons (s_par2 (i := 2) (j := 3) rfl sc__law_heap.nd rfl rfl (by decide) rfl rfl (mm_l ((d_lc (own := [("cell", 1)]) rfl sc__law_heap.nd (i_seq (d_sl (d_of_var (pv 0)) o_none (o_some d_int))) (blkOk_by (N := ["script", "cell", "cells", "stir"]) (sc := defScope s__law_heap) (by decide +kernel)) (fun _ _ _ _ _ => (g_name (i := 1) sc__law_heap.nd rfl (by first | exact Or.inl rfl | exact Or.inr rfl))) (fun _ _ _ _ _ => d_yes) (fun _ _ _ _ _ => (d_bin od_add op_addA (d_bin od_mulS op_mul d_int (d_bi ca_abs call_abs rfl T.b_abs (by decide +kernel) (d_cons (d_of_var (pv 1)) d_nil))) (d_ty ca_int call_int1 rfl T.b_int (by decide +kernel) (d_cons (d_cmp od_lt op_lt (d_of_var (pv 1)) d_int) d_nil)))) (by decide))) (mm_e d_int mm_nil)) rfl)
      (pss_cons (s_frz (i := 2) (s_for PassesOwn.never rfl (i_seq (d_of_var (pv 2))) (g_name (i := 1) sc__law_heap.nd rfl (by first | exact Or.inl rfl | exact Or.inr rfl))
    (s_one (s_set (i := 3) sc__law_heap.nd rfl (by first | exact Or.inl rfl | exact Or.inr rfl) (d_bin od_mod op_modN (d_ty ca_int call_int1 rfl T.b_int (by decide +kernel) (d_cons (d_bin od_add op_addA (d_bin od_add op_addA (d_bin od_mul op_mulA (d_of_var (pv 3)) d_int) (d_bin od_mod op_modN (d_ty ca_int call_int1 rfl T.b_int (by decide +kernel) (d_cons (d_of_var (pv 1)) d_nil)) d_int)) d_int) d_nil)) d_int)))))
      (pss_one (ps_ret (pe_lst (pa_cons (d_revL (d_lc (own := [("cell", 1)]) rfl sc__law_heap.nd (i_seq (d_of_var (pv 2))) (blkOk_by (N := ["script", "cell", "cells", "stir"]) (sc := defScope s__law_heap) (by decide +kernel)) (fun _ _ _ _ _ => (g_name (i := 1) sc__law_heap.nd rfl (by first | exact Or.inl rfl | exact Or.inr rfl))) (fun _ _ _ _ _ => (L2.pts_one (d_tcmp od_ge op_ge (d_of_var (pv 1)) (d_bin od_pow op_pow d_int d_int)))) (fun _ _ _ _ _ => (d_bin od_mod op_modN (d_ty ca_int call_int1 rfl T.b_int (by decide +kernel) (d_cons (d_of_var (pv 1)) d_nil)) (d_bin od_mul op_mulA (d_bin od_mul op_mulA (d_bin od_mul op_mulA (d_bin od_pow op_pow d_int d_int) (d_bin od_pow op_pow d_int d_int)) (d_bin od_pow op_pow d_int d_int)) (d_bin od_pow op_pow d_int d_int)))) (by decide))) (pa_cons (d_of_var (pv 3)) pa_nil))))))
    refine ⟨_, k.nox, ?_⟩
    have ok0 : Ok K none F0 H (L2.start ["script", "cell", "cells", "stir"] [.ref a]) H F0 [.im (.dict [(.none, .list (ns.map PyData.int))]), .un, .un, .un] ([], 0) :=
      ok_start (ps := ["script"]) (ds := [.dict [(.none, .list (ns.map PyData.int))]]) (by decide) sm (fun a b T e => nomatch e) (.cons (.sq sq) .nil) rfl
    refine ⟨F0, _, _, _, ok0, em1, fun σ1 H1 F1 sm1 ok1 => ⟨F1, env1, s1, _, ok1, em2, fun σ2 H2 F2 sm2 ok2 => ?_⟩⟩
    refine ⟨F2, env2, s2, _, s3, ok2, em3, fun q ws F3 H3 nq nfq eq rq g3 ok3 => ⟨F3, env2, s3, .int st, s3, ok3, ?_, fun v F4 H4 g4 ok4 r4 => ?_⟩⟩
    · unfold mVar
      rw [e3]
    · cases r4
      refine ⟨by show 2 ≤ sizeLine; rw [sizeLine_eq]; decide, fun p np => ?_⟩
      have nh : ∀ z : Addr, ¬ isH none z := fun z ⟨_, _, _, e, _⟩ => nomatch e
      have eq4 : H4 q = some (.lst ws) := g4.hh q _ (nh q) eq
      have npq : p ≠ q := fun z => by
        rw [z, eq4] at np
        cases np
      have back : ∀ {z : Addr}, H4 z = none → H z = none := fun {z} e => by
        cases y : H z with
        | none => rfl
        | some o => exact absurd e (ok4.gr.st z (by rw [y]; exact fun y => nomatch y))
      refine c p q F4 (upd H4 p (.lst [.ref q, .int st])) (ok4.gr.trans (Gp.own ok4.fh np).gr) npq (back np) (ok2.no0 nq) (ok4.fh.free np) (g4.nw q (by rw [eq]; exact fun y => nomatch y) nfq) upd_same ?_
      rw [upd_ne (Ne.symm npq), eq4, ints_of rq]
end
section
variable {P : Program} {w : World} {K : PySem.W.Frag} {mg : Str → Option Value} {base : Heap}
theorem sc_is_integer : FnScope ["value"] ["value"] (defScope s_is_integer) := ⟨rfl, rfl, rfl, by decide +kernel, rfl, by decide +kernel, by decide +kernel⟩
noncomputable def m_is_integer : SM := (mRet (mAnd (mIsi "int" (mVar 0)) (mNot (mIsi "bool" (mVar 0)))))
noncomputable def φ_is_integer : Fn := mFun 1 1 m_is_integer
theorem ok_is_integer (T : Txt P w K mg base) {f : Addr} {fd : FuncData} (F : FunD K "is_integer" "is_integer" (defArgs s_is_integer) (defBody s_is_integer) (defScope s_is_integer) [] [] f fd) : FnOk P w K mg base CX0 1 f fd ["value"] (spD K φ_is_integer) :=
  fn_ok (N := ["value"]) (k := 0) (m := m_is_integer) F sc_is_integer (by decide) fun h F0 H0 cdv A outer s H E hr =>
    (s_one (s_ret (d_andV (d_isi rfl T.b_isinstance (by decide +kernel) rfl T.b_int (by decide +kernel) (d_of_var (pv 0))) (d_one (d_notV (d_isi rfl T.b_isinstance (by decide +kernel) rfl T.b_bool (by decide +kernel) (d_of_var (pv 0))))))))
theorem c_is_integer (T : Txt P w K mg base) : Fc P w K mg base 1 "is_integer" φ_is_integer := by
  obtain ⟨f, fd, F, g⟩ := T.d_is_integer
  exact fc_of (ok_is_integer T F) g F.kp (F.bindsN fun _ _ _ _ _ _ us hl => match us, hl with | [_], _ => rfl)
theorem sc_divisor_of : FnScope ["one", "other"] ["one", "other"] (defScope s_divisor_of) := ⟨rfl, rfl, rfl, by decide +kernel, rfl, by decide +kernel, by decide +kernel⟩
noncomputable def m_divisor_of : SM := (mSeq (mWhile (mT (mOp neD (mVar 1) (mC (.int 0))))
    (mPar2 0 1 (mmE (mVar 1) (mmE (mOp modD (mVar 0) (mVar 1)) mmNil))))
    (mRet (mB absD (mCons (mVar 0) mNil))))
noncomputable def φ_divisor_of : Fn := mFun 2 2 m_divisor_of
theorem ok_divisor_of (T : Txt P w K mg base) {f : Addr} {fd : FuncData} (F : FunD K "divisor_of" "divisor_of" (defArgs s_divisor_of) (defBody s_divisor_of) (defScope s_divisor_of) [] [] f fd) : FnOk P w K mg base CX0 1 f fd ["one", "other"] (spD K φ_divisor_of) :=
  fn_ok (N := ["one", "other"]) (k := 0) (m := m_divisor_of) F sc_divisor_of (by decide) fun h F0 H0 cdv A outer s H E hr =>
    (s_cons (s_while PassesOwn.never (d_tcmp od_ne (op_neD hr.units) (d_of_var (pv 1)) d_int)
    (s_one (s_par2 (i := 0) (j := 1) rfl sc_divisor_of.nd rfl rfl (by decide) rfl rfl (mm_e (d_of_var (pv 1)) (mm_e (d_bin od_mod op_modN (d_of_var (pv 0)) (d_of_var (pv 1))) mm_nil)) rfl)))
    (s_one (s_ret (d_bi ca_abs call_abs rfl T.b_abs (by decide +kernel) (d_cons (d_of_var (pv 0)) d_nil)))))
theorem c_divisor_of (T : Txt P w K mg base) : Fc P w K mg base 1 "divisor_of" φ_divisor_of := by
  obtain ⟨f, fd, F, g⟩ := T.d_divisor_of
  exact fc_of (ok_divisor_of T F) g F.kp (F.bindsN fun _ _ _ _ _ _ us hl => match us, hl with | [_, _], _ => rfl)
theorem sc_is_fraction : FnScope ["value"] ["value"] (defScope s_is_fraction) := ⟨rfl, rfl, rfl, by decide +kernel, rfl, by decide +kernel, by decide +kernel⟩
noncomputable def m_is_fraction : SM := (mSeq (mIte (tmOr (tmNot (mT (mIsi "tuple" (mVar 0)))) (tmOr (mT (mOp neD (mB lenD (mCons (mVar 0) mNil)) (mC (.int 2)))) (tmOr (tmNot (mT (mCall φ_is_integer (mCons (mOp ixD (mVar 0) (mC (.int 0))) mNil)))) (tmNot (mT (mCall φ_is_integer (mCons (mOp ixD (mVar 0) (mC (.int 1))) mNil)))))))
    (mRet (mC (.bool false)))
    mNext)
    (mRet (mAnd (mOp gtD (mOp ixD (mVar 0) (mC (.int 1))) (mC (.int 0))) (mOp eqD (mCall φ_divisor_of (mCons (mOp ixD (mVar 0) (mC (.int 0))) (mCons (mOp ixD (mVar 0) (mC (.int 1))) mNil))) (mC (.int 1))))))
noncomputable def φ_is_fraction : Fn := mFun 1 1 m_is_fraction
theorem ok_is_fraction (T : Txt P w K mg base) {f : Addr} {fd : FuncData} (F : FunD K "is_fraction" "is_fraction" (defArgs s_is_fraction) (defBody s_is_fraction) (defScope s_is_fraction) [] [] f fd) : FnOk P w K mg base CX0 2 f fd ["value"] (spD K φ_is_fraction) :=
  fn_ok (N := ["value"]) (k := 1) (m := m_is_fraction) F sc_is_fraction (by decide) fun h F0 H0 cdv A outer s H E hr =>
    (s_cons (s_if (PW.pt (d_or (d_not (d_tval (d_isi rfl T.b_isinstance (by decide +kernel) rfl T.b_tuple (by decide +kernel) (d_of_var (pv 0))))) (d_or (d_tcmp od_ne (op_neD hr.units) (d_bi ca_len call_len rfl T.b_len (by decide +kernel) (d_cons (d_of_var (pv 0)) d_nil)) d_int) (d_or (d_not (d_tval (d_call (c_is_integer T) (hr.mono (by decide)) rfl (d_cons (d_ix (d_of_var (pv 0)) d_int (fun _ _ => rfl)) d_nil)))) (d_or1 (d_not (d_tval (d_call (c_is_integer T) (hr.mono (by decide)) rfl (d_cons (d_ix (d_of_var (pv 0)) d_int (fun _ _ => rfl)) d_nil)))))))))
    (s_one (s_ret d_bl))
    s_nil)
    (s_one (s_ret (d_andV (d_cmp od_gt op_gt (d_ix (d_of_var (pv 0)) d_int (fun _ _ => rfl)) d_int) (d_one (d_cmp od_eq (op_eqD hr.units) (d_call (c_divisor_of T) (hr.mono (by decide)) rfl (d_cons (d_ix (d_of_var (pv 0)) d_int (fun _ _ => rfl)) (d_cons (d_ix (d_of_var (pv 0)) d_int (fun _ _ => rfl)) d_nil))) d_int))))))
theorem c_is_fraction (T : Txt P w K mg base) : Fc P w K mg base 2 "is_fraction" φ_is_fraction := by
  obtain ⟨f, fd, F, g⟩ := T.d_is_fraction
  exact fc_of (ok_is_fraction T F) g F.kp (F.bindsN fun _ _ _ _ _ _ us hl => match us, hl with | [_], _ => rfl)
theorem sc_lowest : FnScope ["top", "bottom", "least"] ["top", "bottom"] (defScope s_lowest) := ⟨rfl, rfl, rfl, by decide +kernel, rfl, by decide +kernel, by decide +kernel⟩
noncomputable def m_lowest : SM := (mSeq (mSet 2 (mCall φ_divisor_of (mCons (mVar 0) (mCons (mVar 1) mNil))))
    (mSeq (mIte (mT (mOp ltD (mVar 1) (mC (.int 0))))
    (mSet 2 (mUn negD (mVar 2)))
    mNext)
    (mRet (mTup (mCons (mOp divP (mVar 0) (mVar 2)) (mCons (mOp divP (mVar 1) (mVar 2)) mNil))))))
noncomputable def φ_lowest : Fn := mFun 2 3 m_lowest
theorem ok_lowest (T : Txt P w K mg base) {f : Addr} {fd : FuncData} (F : FunD K "lowest" "lowest" (defArgs s_lowest) (defBody s_lowest) (defScope s_lowest) [] [] f fd) : FnOk P w K mg base CX0 33 f fd ["top", "bottom"] (spD K φ_lowest) :=
  fn_ok (N := ["top", "bottom", "least"]) (k := 32) (m := m_lowest) F sc_lowest (by decide) fun h F0 H0 cdv A outer s H E hr =>
    (s_cons (s_set (i := 2) sc_lowest.nd rfl (by first | exact Or.inl rfl | exact Or.inr rfl) (d_call (c_divisor_of T) (hr.mono (by decide)) rfl (d_cons (d_of_var (pv 0)) (d_cons (d_of_var (pv 1)) d_nil))))
    (s_cons (s_if (d_tcmp od_lt op_lt (d_of_var (pv 1)) d_int)
    (s_one (s_set (i := 2) sc_lowest.nd rfl (by first | exact Or.inl rfl | exact Or.inr rfl) (d_un ud_neg un_neg (d_of_var (pv 2)))))
    s_nil)
    (s_one (s_ret (d_tup (d_cons (d_bin od_divP (op_fdivP T.seer T.tree rfl rfl rfl hr (by decide)) (d_of_var (pv 0)) (d_of_var (pv 2))) (d_cons (d_bin od_divP (op_fdivP T.seer T.tree rfl rfl rfl hr (by decide)) (d_of_var (pv 1)) (d_of_var (pv 2))) d_nil)))))))
theorem c_lowest (T : Txt P w K mg base) : Fc P w K mg base 33 "lowest" φ_lowest := by
  obtain ⟨f, fd, F, g⟩ := T.d_lowest
  exact fc_of (ok_lowest T F) g F.kp (F.bindsN fun _ _ _ _ _ _ us hl => match us, hl with | [_, _], _ => rfl)
theorem sc_frac : FnScope ["top", "bottom"] ["top", "bottom"] (defScope s_frac) := ⟨rfl, rfl, rfl, by decide +kernel, rfl, by decide +kernel, by decide +kernel⟩
noncomputable def m_frac : SM := (mSeq (mIte (tmNot (mT (mCall φ_is_integer (mCons (mVar 0) mNil))))
    mNever
    mNext)
    (mSeq (mIte (tmOr (tmNot (mT (mCall φ_is_integer (mCons (mVar 1) mNil)))) (mT (mOp eqD (mVar 1) (mC (.int 0)))))
    mNever
    mNext)
    (mRet (mCall φ_lowest (mCons (mVar 0) (mCons (mVar 1) mNil))))))
noncomputable def φ_frac : Fn := mFun 2 2 m_frac
theorem ok_frac (T : Txt P w K mg base) {f : Addr} {fd : FuncData} (F : FunD K "frac" "frac" (defArgs s_frac) (defBody s_frac) (defScope s_frac) [] [] f fd) : FnOk P w K mg base CX0 34 f fd ["top", "bottom"] (spD K φ_frac) :=
  fn_ok (N := ["top", "bottom"]) (k := 33) (m := m_frac) F sc_frac (by decide) fun h F0 H0 cdv A outer s H E hr =>
    (s_cons (s_if (d_not (d_tval (d_call (c_is_integer T) (hr.mono (by decide)) rfl (d_cons (d_of_var (pv 0)) d_nil))))
    (s_one s_never)
    s_nil)
    (s_cons (s_if (PW.pt (d_or (d_not (d_tval (d_call (c_is_integer T) (hr.mono (by decide)) rfl (d_cons (d_of_var (pv 1)) d_nil)))) (d_or1 (d_tcmp od_eq (op_eqD hr.units) (d_of_var (pv 1)) d_int))))
    (s_one s_never)
    s_nil)
    (s_one (s_ret (d_call (c_lowest T) (hr.mono (by decide)) rfl (d_cons (d_of_var (pv 0)) (d_cons (d_of_var (pv 1)) d_nil)))))))
theorem c_frac (T : Txt P w K mg base) : Fc P w K mg base 34 "frac" φ_frac := by
  obtain ⟨f, fd, F, g⟩ := T.d_frac
  exact fc_of (ok_frac T F) g F.kp (F.bindsN fun _ _ _ _ _ _ us hl => match us, hl with | [_, _], _ => rfl)
noncomputable def mR_frac : SM := (mSeq (mIte (tmNot (mT (mCall φ_is_integer (mCons (mVar 0) mNil))))
    (mRaise "InvalidFraction" (mC (.int 0)))
    mNext)
    (mSeq (mIte (tmOr (tmNot (mT (mCall φ_is_integer (mCons (mVar 1) mNil)))) (mT (mOp eqD (mVar 1) (mC (.int 0)))))
    (mRaise "InvalidFraction" (mC (.int 1)))
    mNext)
    (mRet (mCall φ_lowest (mCons (mVar 0) (mCons (mVar 1) mNil))))))
noncomputable def ψ_frac : FnR := mFunR 2 2 mR_frac
theorem okR_frac (T : Txt P w K mg base) {f : Addr} {fd : FuncData} (F : FunD K "frac" "frac" (defArgs s_frac) (defBody s_frac) (defScope s_frac) [] [] f fd) : FnOk P w K mg base (L2.CX P w) 34 f fd ["top", "bottom"] (spR K mg ψ_frac) :=
  fn_okR (N := ["top", "bottom"]) (k := 33) (m := mR_frac) F sc_frac (by decide) fun h F0 H0 cdv A outer s H E hr =>
    (s_cons (s_if (d_not (d_tval (d_call (c_is_integer T) (hr.mono (by decide)) rfl (d_cons (d_of_var (pv 0)) d_nil))))
    (s_one (s_raiseX T.x_InvalidFraction rfl (takes_of rfl rfl rfl rfl) (hr.mono (by decide)) rfl d_int))
    s_nil)
    (s_cons (s_if (PW.pt (d_or (d_not (d_tval (d_call (c_is_integer T) (hr.mono (by decide)) rfl (d_cons (d_of_var (pv 1)) d_nil)))) (d_or1 (d_tcmp od_eq (op_eqD hr.units) (d_of_var (pv 1)) d_int))))
    (s_one (s_raiseX T.x_InvalidFraction rfl (takes_of rfl rfl rfl rfl) (hr.mono (by decide)) rfl d_int))
    s_nil)
    (s_one (s_ret (d_call (c_lowest T) (hr.mono (by decide)) rfl (d_cons (d_of_var (pv 0)) (d_cons (d_of_var (pv 1)) d_nil)))))))
theorem cR_frac (T : Txt P w K mg base) : Fr P w K mg base 34 "frac" ψ_frac := by
  obtain ⟨f, fd, F, g⟩ := T.d_frac
  exact ⟨f, fd, _, okR_frac T F, g, F.kp, (F.bindsN fun _ _ _ _ _ _ us hl => match us, hl with | [_, _], _ => rfl)⟩
theorem sc_added : FnScope ["one", "other"] ["one", "other"] (defScope s_added) := ⟨rfl, rfl, rfl, by decide +kernel, rfl, by decide +kernel, by decide +kernel⟩
noncomputable def m_added : SM := (mSeq (mIte (mT (mOp eqD (mOp ixD (mVar 0) (mC (.int 1))) (mOp ixD (mVar 1) (mC (.int 1)))))
    (mRet (mCall φ_lowest (mCons (mOp addD (mOp ixD (mVar 0) (mC (.int 0))) (mOp ixD (mVar 1) (mC (.int 0)))) (mCons (mOp ixD (mVar 0) (mC (.int 1))) mNil))))
    mNext)
    (mRet (mCall φ_lowest (mCons (mOp addD (mOp mulD (mOp ixD (mVar 0) (mC (.int 0))) (mOp ixD (mVar 1) (mC (.int 1)))) (mOp mulD (mOp ixD (mVar 1) (mC (.int 0))) (mOp ixD (mVar 0) (mC (.int 1))))) (mCons (mOp mulD (mOp ixD (mVar 0) (mC (.int 1))) (mOp ixD (mVar 1) (mC (.int 1)))) mNil)))))
noncomputable def φ_added : Fn := mFun 2 2 m_added
theorem ok_added (T : Txt P w K mg base) {f : Addr} {fd : FuncData} (F : FunD K "added" "added" (defArgs s_added) (defBody s_added) (defScope s_added) [] [] f fd) : FnOk P w K mg base CX0 34 f fd ["one", "other"] (spD K φ_added) :=
  fn_ok (N := ["one", "other"]) (k := 33) (m := m_added) F sc_added (by decide) fun h F0 H0 cdv A outer s H E hr =>
    (s_cons (s_if (d_tcmp od_eq (op_eqD hr.units) (d_ix (d_of_var (pv 0)) d_int (fun _ _ => rfl)) (d_ix (d_of_var (pv 1)) d_int (fun _ _ => rfl)))
    (s_one (s_ret (d_call (c_lowest T) (hr.mono (by decide)) rfl (d_cons (d_bin od_add op_addA (d_ix (d_of_var (pv 0)) d_int (fun _ _ => rfl)) (d_ix (d_of_var (pv 1)) d_int (fun _ _ => rfl))) (d_cons (d_ix (d_of_var (pv 0)) d_int (fun _ _ => rfl)) d_nil)))))
    s_nil)
    (s_one (s_ret (d_call (c_lowest T) (hr.mono (by decide)) rfl (d_cons (d_bin od_add op_addA (d_bin od_mul op_mulA (d_ix (d_of_var (pv 0)) d_int (fun _ _ => rfl)) (d_ix (d_of_var (pv 1)) d_int (fun _ _ => rfl))) (d_bin od_mul op_mulA (d_ix (d_of_var (pv 1)) d_int (fun _ _ => rfl)) (d_ix (d_of_var (pv 0)) d_int (fun _ _ => rfl)))) (d_cons (d_bin od_mul op_mulA (d_ix (d_of_var (pv 0)) d_int (fun _ _ => rfl)) (d_ix (d_of_var (pv 1)) d_int (fun _ _ => rfl))) d_nil))))))
theorem c_added (T : Txt P w K mg base) : Fc P w K mg base 34 "added" φ_added := by
  obtain ⟨f, fd, F, g⟩ := T.d_added
  exact fc_of (ok_added T F) g F.kp (F.bindsN fun _ _ _ _ _ _ us hl => match us, hl with | [_, _], _ => rfl)
theorem sc_less : FnScope ["one", "other"] ["one", "other"] (defScope s_less) := ⟨rfl, rfl, rfl, by decide +kernel, rfl, by decide +kernel, by decide +kernel⟩
noncomputable def m_less : SM := (mRet (mCall φ_added (mCons (mVar 0) (mCons (mTup (mCons (mUn negD (mOp ixD (mVar 1) (mC (.int 0)))) (mCons (mOp ixD (mVar 1) (mC (.int 1))) mNil))) mNil))))
noncomputable def φ_less : Fn := mFun 2 2 m_less
theorem ok_less (T : Txt P w K mg base) {f : Addr} {fd : FuncData} (F : FunD K "less" "less" (defArgs s_less) (defBody s_less) (defScope s_less) [] [] f fd) : FnOk P w K mg base CX0 35 f fd ["one", "other"] (spD K φ_less) :=
  fn_ok (N := ["one", "other"]) (k := 34) (m := m_less) F sc_less (by decide) fun h F0 H0 cdv A outer s H E hr =>
    (s_one (s_ret (d_call (c_added T) (hr.mono (by decide)) rfl (d_cons (d_of_var (pv 0)) (d_cons (d_tup (d_cons (d_un ud_neg un_neg (d_ix (d_of_var (pv 1)) d_int (fun _ _ => rfl))) (d_cons (d_ix (d_of_var (pv 1)) d_int (fun _ _ => rfl)) d_nil))) d_nil)))))
theorem c_less (T : Txt P w K mg base) : Fc P w K mg base 35 "less" φ_less := by
  obtain ⟨f, fd, F, g⟩ := T.d_less
  exact fc_of (ok_less T F) g F.kp (F.bindsN fun _ _ _ _ _ _ us hl => match us, hl with | [_, _], _ => rfl)
theorem sc_times : FnScope ["one", "other"] ["one", "other"] (defScope s_times) := ⟨rfl, rfl, rfl, by decide +kernel, rfl, by decide +kernel, by decide +kernel⟩
noncomputable def m_times : SM := (mRet (mCall φ_lowest (mCons (mOp mulD (mOp ixD (mVar 0) (mC (.int 0))) (mOp ixD (mVar 1) (mC (.int 0)))) (mCons (mOp mulD (mOp ixD (mVar 0) (mC (.int 1))) (mOp ixD (mVar 1) (mC (.int 1)))) mNil))))
noncomputable def φ_times : Fn := mFun 2 2 m_times
theorem ok_times (T : Txt P w K mg base) {f : Addr} {fd : FuncData} (F : FunD K "times" "times" (defArgs s_times) (defBody s_times) (defScope s_times) [] [] f fd) : FnOk P w K mg base CX0 34 f fd ["one", "other"] (spD K φ_times) :=
  fn_ok (N := ["one", "other"]) (k := 33) (m := m_times) F sc_times (by decide) fun h F0 H0 cdv A outer s H E hr =>
    (s_one (s_ret (d_call (c_lowest T) (hr.mono (by decide)) rfl (d_cons (d_bin od_mul op_mulA (d_ix (d_of_var (pv 0)) d_int (fun _ _ => rfl)) (d_ix (d_of_var (pv 1)) d_int (fun _ _ => rfl))) (d_cons (d_bin od_mul op_mulA (d_ix (d_of_var (pv 0)) d_int (fun _ _ => rfl)) (d_ix (d_of_var (pv 1)) d_int (fun _ _ => rfl))) d_nil)))))
theorem c_times (T : Txt P w K mg base) : Fc P w K mg base 34 "times" φ_times := by
  obtain ⟨f, fd, F, g⟩ := T.d_times
  exact fc_of (ok_times T F) g F.kp (F.bindsN fun _ _ _ _ _ _ us hl => match us, hl with | [_, _], _ => rfl)
theorem sc_over : FnScope ["one", "other"] ["one", "other"] (defScope s_over) := ⟨rfl, rfl, rfl, by decide +kernel, rfl, by decide +kernel, by decide +kernel⟩
noncomputable def m_over : SM := (mSeq (mIte (mT (mOp eqD (mOp ixD (mVar 1) (mC (.int 0))) (mC (.int 0))))
    mNever
    mNext)
    (mRet (mCall φ_lowest (mCons (mOp mulD (mOp ixD (mVar 0) (mC (.int 0))) (mOp ixD (mVar 1) (mC (.int 1)))) (mCons (mOp mulD (mOp ixD (mVar 0) (mC (.int 1))) (mOp ixD (mVar 1) (mC (.int 0)))) mNil)))))
noncomputable def φ_over : Fn := mFun 2 2 m_over
theorem ok_over (T : Txt P w K mg base) {f : Addr} {fd : FuncData} (F : FunD K "over" "over" (defArgs s_over) (defBody s_over) (defScope s_over) [] [] f fd) : FnOk P w K mg base CX0 34 f fd ["one", "other"] (spD K φ_over) :=
  fn_ok (N := ["one", "other"]) (k := 33) (m := m_over) F sc_over (by decide) fun h F0 H0 cdv A outer s H E hr =>
    (s_cons (s_if (d_tcmp od_eq (op_eqD hr.units) (d_ix (d_of_var (pv 1)) d_int (fun _ _ => rfl)) d_int)
    (s_one s_never)
    s_nil)
    (s_one (s_ret (d_call (c_lowest T) (hr.mono (by decide)) rfl (d_cons (d_bin od_mul op_mulA (d_ix (d_of_var (pv 0)) d_int (fun _ _ => rfl)) (d_ix (d_of_var (pv 1)) d_int (fun _ _ => rfl))) (d_cons (d_bin od_mul op_mulA (d_ix (d_of_var (pv 0)) d_int (fun _ _ => rfl)) (d_ix (d_of_var (pv 1)) d_int (fun _ _ => rfl))) d_nil))))))
theorem c_over (T : Txt P w K mg base) : Fc P w K mg base 34 "over" φ_over := by
  obtain ⟨f, fd, F, g⟩ := T.d_over
  exact fc_of (ok_over T F) g F.kp (F.bindsN fun _ _ _ _ _ _ us hl => match us, hl with | [_, _], _ => rfl)
noncomputable def mR_over : SM := (mSeq (mIte (mT (mOp eqD (mOp ixD (mVar 1) (mC (.int 0))) (mC (.int 0))))
    (mRaise "Refused" (mC (.str "zero")))
    mNext)
    (mRet (mCall φ_lowest (mCons (mOp mulD (mOp ixD (mVar 0) (mC (.int 0))) (mOp ixD (mVar 1) (mC (.int 1)))) (mCons (mOp mulD (mOp ixD (mVar 0) (mC (.int 1))) (mOp ixD (mVar 1) (mC (.int 0)))) mNil)))))
noncomputable def ψ_over : FnR := mFunR 2 2 mR_over
theorem okR_over (T : Txt P w K mg base) {f : Addr} {fd : FuncData} (F : FunD K "over" "over" (defArgs s_over) (defBody s_over) (defScope s_over) [] [] f fd) : FnOk P w K mg base (L2.CX P w) 34 f fd ["one", "other"] (spR K mg ψ_over) :=
  fn_okR (N := ["one", "other"]) (k := 33) (m := mR_over) F sc_over (by decide) fun h F0 H0 cdv A outer s H E hr =>
    (s_cons (s_if (d_tcmp od_eq (op_eqD hr.units) (d_ix (d_of_var (pv 1)) d_int (fun _ _ => rfl)) d_int)
    (s_one (s_raiseX T.x_Refused rfl (takes_of rfl rfl rfl rfl) (hr.mono (by decide)) rfl d_str))
    s_nil)
    (s_one (s_ret (d_call (c_lowest T) (hr.mono (by decide)) rfl (d_cons (d_bin od_mul op_mulA (d_ix (d_of_var (pv 0)) d_int (fun _ _ => rfl)) (d_ix (d_of_var (pv 1)) d_int (fun _ _ => rfl))) (d_cons (d_bin od_mul op_mulA (d_ix (d_of_var (pv 0)) d_int (fun _ _ => rfl)) (d_ix (d_of_var (pv 1)) d_int (fun _ _ => rfl))) d_nil))))))
theorem cR_over (T : Txt P w K mg base) : Fr P w K mg base 34 "over" ψ_over := by
  obtain ⟨f, fd, F, g⟩ := T.d_over
  exact ⟨f, fd, _, okR_over T F, g, F.kp, (F.bindsN fun _ _ _ _ _ _ us hl => match us, hl with | [_, _], _ => rfl)⟩
theorem sc_compared : FnScope ["one", "other", "gap"] ["one", "other"] (defScope s_compared) := ⟨rfl, rfl, rfl, by decide +kernel, rfl, by decide +kernel, by decide +kernel⟩
noncomputable def m_compared : SM := (mSeq (mSet 2 (mOp subD (mOp mulD (mOp ixD (mVar 0) (mC (.int 0))) (mOp ixD (mVar 1) (mC (.int 1)))) (mOp mulD (mOp ixD (mVar 1) (mC (.int 0))) (mOp ixD (mVar 0) (mC (.int 1))))))
    (mSeq (mIte (mT (mOp eqD (mVar 2) (mC (.int 0))))
    (mRet (mC (.int 0)))
    mNext)
    (mRet (mIf (mT (mOp gtD (mVar 2) (mC (.int 0)))) (mC (.int 1)) (mUn negD (mC (.int 1)))))))
noncomputable def φ_compared : Fn := mFun 2 3 m_compared
theorem ok_compared (T : Txt P w K mg base) {f : Addr} {fd : FuncData} (F : FunD K "compared" "compared" (defArgs s_compared) (defBody s_compared) (defScope s_compared) [] [] f fd) : FnOk P w K mg base CX0 1 f fd ["one", "other"] (spD K φ_compared) :=
  fn_ok (N := ["one", "other", "gap"]) (k := 0) (m := m_compared) F sc_compared (by decide) fun h F0 H0 cdv A outer s H E hr =>
    (s_cons (s_set (i := 2) sc_compared.nd rfl (by first | exact Or.inl rfl | exact Or.inr rfl) (d_bin od_sub op_sub (d_bin od_mul op_mulA (d_ix (d_of_var (pv 0)) d_int (fun _ _ => rfl)) (d_ix (d_of_var (pv 1)) d_int (fun _ _ => rfl))) (d_bin od_mul op_mulA (d_ix (d_of_var (pv 1)) d_int (fun _ _ => rfl)) (d_ix (d_of_var (pv 0)) d_int (fun _ _ => rfl)))))
    (s_cons (s_if (d_tcmp od_eq (op_eqD hr.units) (d_of_var (pv 2)) d_int)
    (s_one (s_ret d_int))
    s_nil)
    (s_one (s_ret (d_if (d_tcmp od_gt op_gt (d_of_var (pv 2)) d_int) d_int (d_un ud_neg un_neg d_int))))))
theorem c_compared (T : Txt P w K mg base) : Fc P w K mg base 1 "compared" φ_compared := by
  obtain ⟨f, fd, F, g⟩ := T.d_compared
  exact fc_of (ok_compared T F) g F.kp (F.bindsN fun _ _ _ _ _ _ us hl => match us, hl with | [_, _], _ => rfl)
theorem sc_size_of : FnScope ["one"] ["one"] (defScope s_size_of) := ⟨rfl, rfl, rfl, by decide +kernel, rfl, by decide +kernel, by decide +kernel⟩
noncomputable def m_size_of : SM := (mRet (mTup (mCons (mB absD (mCons (mOp ixD (mVar 0) (mC (.int 0))) mNil)) (mCons (mOp ixD (mVar 0) (mC (.int 1))) mNil))))
noncomputable def φ_size_of : Fn := mFun 1 1 m_size_of
theorem ok_size_of (T : Txt P w K mg base) {f : Addr} {fd : FuncData} (F : FunD K "size_of" "size_of" (defArgs s_size_of) (defBody s_size_of) (defScope s_size_of) [] [] f fd) : FnOk P w K mg base CX0 1 f fd ["one"] (spD K φ_size_of) :=
  fn_ok (N := ["one"]) (k := 0) (m := m_size_of) F sc_size_of (by decide) fun h F0 H0 cdv A outer s H E hr =>
    (s_one (s_ret (d_tup (d_cons (d_bi ca_abs call_abs rfl T.b_abs (by decide +kernel) (d_cons (d_ix (d_of_var (pv 0)) d_int (fun _ _ => rfl)) d_nil)) (d_cons (d_ix (d_of_var (pv 0)) d_int (fun _ _ => rfl)) d_nil)))))
theorem c_size_of (T : Txt P w K mg base) : Fc P w K mg base 1 "size_of" φ_size_of := by
  obtain ⟨f, fd, F, g⟩ := T.d_size_of
  exact fc_of (ok_size_of T F) g F.kp (F.bindsN fun _ _ _ _ _ _ us hl => match us, hl with | [_], _ => rfl)
theorem sc_greatest_of : FnScope ["row", "found", "one"] ["row"] (defScope s_greatest_of) := ⟨rfl, rfl, rfl, by decide +kernel, rfl, by decide +kernel, by decide +kernel⟩
noncomputable def m_greatest_of : SM := (mSeq (mSet 1 (mOp ixD (mVar 0) (mC (.int 0))))
    (mSeq (mFor (mItems (mVar 0)) (gN 2)
    (mIte (mT (mOp gtD (mCall φ_compared (mCons (mVar 2) (mCons (mVar 1) mNil))) (mC (.int 0))))
    (mSet 1 (mVar 2))
    mNext))
    (mRet (mVar 1))))
noncomputable def φ_greatest_of : Fn := mFun 1 3 m_greatest_of
theorem ok_greatest_of (T : Txt P w K mg base) {f : Addr} {fd : FuncData} (F : FunD K "greatest_of" "greatest_of" (defArgs s_greatest_of) (defBody s_greatest_of) (defScope s_greatest_of) [] [] f fd) : FnOk P w K mg base CX0 2 f fd ["row"] (spD K φ_greatest_of) :=
  fn_ok (N := ["row", "found", "one"]) (k := 1) (m := m_greatest_of) F sc_greatest_of (by decide) fun h F0 H0 cdv A outer s H E hr =>
    (s_cons (s_set (i := 1) sc_greatest_of.nd rfl (by first | exact Or.inl rfl | exact Or.inr rfl) (d_ix (d_of_var (pv 0)) d_int (fun _ _ => rfl)))
    (s_cons (s_for PassesOwn.never rfl (i_seq (d_of_var (pv 0))) (g_name (i := 2) sc_greatest_of.nd rfl (by first | exact Or.inl rfl | exact Or.inr rfl))
    (s_one (s_if (d_tcmp od_gt op_gt (d_call (c_compared T) (hr.mono (by decide)) rfl (d_cons (d_of_var (pv 2)) (d_cons (d_of_var (pv 1)) d_nil))) d_int)
    (s_one (s_set (i := 1) sc_greatest_of.nd rfl (by first | exact Or.inl rfl | exact Or.inr rfl) (d_of_var (pv 2))))
    s_nil)))
    (s_one (s_ret (d_of_var (pv 1))))))
theorem c_greatest_of (T : Txt P w K mg base) : Fc P w K mg base 2 "greatest_of" φ_greatest_of := by
  obtain ⟨f, fd, F, g⟩ := T.d_greatest_of
  exact fc_of (ok_greatest_of T F) g F.kp (F.bindsN fun _ _ _ _ _ _ us hl => match us, hl with | [_], _ => rfl)
theorem sc_least_of : FnScope ["row", "found", "one"] ["row"] (defScope s_least_of) := ⟨rfl, rfl, rfl, by decide +kernel, rfl, by decide +kernel, by decide +kernel⟩
noncomputable def m_least_of : SM := (mSeq (mSet 1 (mOp ixD (mVar 0) (mC (.int 0))))
    (mSeq (mFor (mItems (mVar 0)) (gN 2)
    (mIte (mT (mOp ltD (mCall φ_compared (mCons (mVar 2) (mCons (mVar 1) mNil))) (mC (.int 0))))
    (mSet 1 (mVar 2))
    mNext))
    (mRet (mVar 1))))
noncomputable def φ_least_of : Fn := mFun 1 3 m_least_of
theorem ok_least_of (T : Txt P w K mg base) {f : Addr} {fd : FuncData} (F : FunD K "least_of" "least_of" (defArgs s_least_of) (defBody s_least_of) (defScope s_least_of) [] [] f fd) : FnOk P w K mg base CX0 2 f fd ["row"] (spD K φ_least_of) :=
  fn_ok (N := ["row", "found", "one"]) (k := 1) (m := m_least_of) F sc_least_of (by decide) fun h F0 H0 cdv A outer s H E hr =>
    (s_cons (s_set (i := 1) sc_least_of.nd rfl (by first | exact Or.inl rfl | exact Or.inr rfl) (d_ix (d_of_var (pv 0)) d_int (fun _ _ => rfl)))
    (s_cons (s_for PassesOwn.never rfl (i_seq (d_of_var (pv 0))) (g_name (i := 2) sc_least_of.nd rfl (by first | exact Or.inl rfl | exact Or.inr rfl))
    (s_one (s_if (d_tcmp od_lt op_lt (d_call (c_compared T) (hr.mono (by decide)) rfl (d_cons (d_of_var (pv 2)) (d_cons (d_of_var (pv 1)) d_nil))) d_int)
    (s_one (s_set (i := 1) sc_least_of.nd rfl (by first | exact Or.inl rfl | exact Or.inr rfl) (d_of_var (pv 2))))
    s_nil)))
    (s_one (s_ret (d_of_var (pv 1))))))
theorem c_least_of (T : Txt P w K mg base) : Fc P w K mg base 2 "least_of" φ_least_of := by
  obtain ⟨f, fd, F, g⟩ := T.d_least_of
  exact fc_of (ok_least_of T F) g F.kp (F.bindsN fun _ _ _ _ _ _ us hl => match us, hl with | [_], _ => rfl)
theorem sc_sum_of : FnScope ["row", "one", "top", "bottom"] ["row"] (defScope s_sum_of) := ⟨rfl, rfl, rfl, by decide +kernel, rfl, by decide +kernel, by decide +kernel⟩
noncomputable def m_sum_of : SM := (mSeq (mAsg (mTup (mCons (mC (.int 0)) (mCons (mC (.int 1)) mNil))) (gT 2 (gsCons (gN 2) (gsCons (gN 3) gsNil))))
    (mSeq (mFor (mItems (mVar 0)) (gN 1)
    (mIte (mT (mOp eqD (mOp ixD (mVar 1) (mC (.int 1))) (mVar 3)))
    (mAug 2 (ii0 fun i j => .int (i + j)) (mOp ixD (mVar 1) (mC (.int 0))))
    (mAsg (mCall φ_lowest (mCons (mOp addD (mOp mulD (mVar 2) (mOp ixD (mVar 1) (mC (.int 1)))) (mOp mulD (mOp ixD (mVar 1) (mC (.int 0))) (mVar 3))) (mCons (mOp mulD (mVar 3) (mOp ixD (mVar 1) (mC (.int 1)))) mNil))) (gT 2 (gsCons (gN 2) (gsCons (gN 3) gsNil))))))
    (mRet (mCall φ_lowest (mCons (mVar 2) (mCons (mVar 3) mNil))))))
noncomputable def φ_sum_of : Fn := mFun 1 4 m_sum_of
theorem ok_sum_of (T : Txt P w K mg base) {f : Addr} {fd : FuncData} (F : FunD K "sum_of" "sum_of" (defArgs s_sum_of) (defBody s_sum_of) (defScope s_sum_of) [] [] f fd) : FnOk P w K mg base CX0 34 f fd ["row"] (spD K φ_sum_of) :=
  fn_ok (N := ["row", "one", "top", "bottom"]) (k := 33) (m := m_sum_of) F sc_sum_of (by decide) fun h F0 H0 cdv A outer s H E hr =>
    (s_cons (s_asg (d_tup (d_cons d_int (d_cons d_int d_nil))) (g_tup rfl (g_cons (g_name (i := 2) sc_sum_of.nd rfl (by first | exact Or.inl rfl | exact Or.inr rfl)) (g_cons (g_name (i := 3) sc_sum_of.nd rfl (by first | exact Or.inl rfl | exact Or.inr rfl)) g_nil))))
    (s_cons (s_for PassesOwn.never rfl (i_seq (d_of_var (pv 0))) (g_name (i := 1) sc_sum_of.nd rfl (by first | exact Or.inl rfl | exact Or.inr rfl))
    (s_one (s_if (d_tcmp od_eq (op_eqD hr.units) (d_ix (d_of_var (pv 1)) d_int (fun _ _ => rfl)) (d_of_var (pv 3)))
    (s_one (s_aug (i := 2) od_iadd sc_sum_of.nd rfl (by first | exact Or.inl rfl | exact Or.inr rfl) (d_ix (d_of_var (pv 1)) d_int (fun _ _ => rfl)) ip_add))
    (s_one (s_asg (d_call (c_lowest T) (hr.mono (by decide)) rfl (d_cons (d_bin od_add op_addA (d_bin od_mul op_mulA (d_of_var (pv 2)) (d_ix (d_of_var (pv 1)) d_int (fun _ _ => rfl))) (d_bin od_mul op_mulA (d_ix (d_of_var (pv 1)) d_int (fun _ _ => rfl)) (d_of_var (pv 3)))) (d_cons (d_bin od_mul op_mulA (d_of_var (pv 3)) (d_ix (d_of_var (pv 1)) d_int (fun _ _ => rfl))) d_nil))) (g_tup rfl (g_cons (g_name (i := 2) sc_sum_of.nd rfl (by first | exact Or.inl rfl | exact Or.inr rfl)) (g_cons (g_name (i := 3) sc_sum_of.nd rfl (by first | exact Or.inl rfl | exact Or.inr rfl)) g_nil))))))))
    (s_one (s_ret (d_call (c_lowest T) (hr.mono (by decide)) rfl (d_cons (d_of_var (pv 2)) (d_cons (d_of_var (pv 3)) d_nil)))))))
theorem c_sum_of (T : Txt P w K mg base) : Fc P w K mg base 34 "sum_of" φ_sum_of := by
  obtain ⟨f, fd, F, g⟩ := T.d_sum_of
  exact fc_of (ok_sum_of T F) g F.kp (F.bindsN fun _ _ _ _ _ _ us hl => match us, hl with | [_], _ => rfl)
theorem sc_floor_of : FnScope ["one"] ["one"] (defScope s_floor_of) := ⟨rfl, rfl, rfl, by decide +kernel, rfl, by decide +kernel, by decide +kernel⟩
noncomputable def m_floor_of : SM := (mRet (mOp divD (mOp ixD (mVar 0) (mC (.int 0))) (mOp ixD (mVar 0) (mC (.int 1)))))
noncomputable def φ_floor_of : Fn := mFun 1 1 m_floor_of
theorem ok_floor_of (T : Txt P w K mg base) {f : Addr} {fd : FuncData} (F : FunD K "floor_of" "floor_of" (defArgs s_floor_of) (defBody s_floor_of) (defScope s_floor_of) [] [] f fd) : FnOk P w K mg base CX0 1 f fd ["one"] (spD K φ_floor_of) :=
  fn_ok (N := ["one"]) (k := 0) (m := m_floor_of) F sc_floor_of (by decide) fun h F0 H0 cdv A outer s H E hr =>
    (s_one (s_ret (d_bin od_div op_fdivG (d_ix (d_of_var (pv 0)) d_int (fun _ _ => rfl)) (d_ix (d_of_var (pv 0)) d_int (fun _ _ => rfl)))))
theorem c_floor_of (T : Txt P w K mg base) : Fc P w K mg base 1 "floor_of" φ_floor_of := by
  obtain ⟨f, fd, F, g⟩ := T.d_floor_of
  exact fc_of (ok_floor_of T F) g F.kp (F.bindsN fun _ _ _ _ _ _ us hl => match us, hl with | [_], _ => rfl)
theorem sc_down_to : FnScope ["one", "m"] ["one", "m"] (defScope s_down_to) := ⟨rfl, rfl, rfl, by decide +kernel, rfl, by decide +kernel, by decide +kernel⟩
noncomputable def m_down_to : SM := (mRet (mCall φ_lowest (mCons (mOp divD (mOp mulD (mOp ixD (mVar 0) (mC (.int 0))) (mVar 1)) (mOp ixD (mVar 0) (mC (.int 1)))) (mCons (mVar 1) mNil))))
noncomputable def φ_down_to : Fn := mFun 2 2 m_down_to
theorem ok_down_to (T : Txt P w K mg base) {f : Addr} {fd : FuncData} (F : FunD K "down_to" "down_to" (defArgs s_down_to) (defBody s_down_to) (defScope s_down_to) [] [] f fd) : FnOk P w K mg base CX0 34 f fd ["one", "m"] (spD K φ_down_to) :=
  fn_ok (N := ["one", "m"]) (k := 33) (m := m_down_to) F sc_down_to (by decide) fun h F0 H0 cdv A outer s H E hr =>
    (s_one (s_ret (d_call (c_lowest T) (hr.mono (by decide)) rfl (d_cons (d_bin od_div op_fdivG (d_bin od_mul op_mulA (d_ix (d_of_var (pv 0)) d_int (fun _ _ => rfl)) (d_of_var (pv 1))) (d_ix (d_of_var (pv 0)) d_int (fun _ _ => rfl))) (d_cons (d_of_var (pv 1)) d_nil)))))
theorem c_down_to (T : Txt P w K mg base) : Fc P w K mg base 34 "down_to" φ_down_to := by
  obtain ⟨f, fd, F, g⟩ := T.d_down_to
  exact fc_of (ok_down_to T F) g F.kp (F.bindsN fun _ _ _ _ _ _ us hl => match us, hl with | [_, _], _ => rfl)
-- by hand: _law_heap
-- by hand: _law_draw
theorem sc__law_pick : FnScope ["heap", "some"] ["heap", "some"] (defScope s__law_pick) := ⟨rfl, rfl, rfl, by decide +kernel, rfl, by decide +kernel, by decide +kernel⟩
noncomputable def m__law_pick : SM := (mRet (mOp ixD (mVar 1) (mCall φ__law_draw (mCons (mVar 0) (mCons (mB lenD (mCons (mVar 1) mNil)) mNil)))))
noncomputable def φ__law_pick : Fn := mFun 2 2 m__law_pick
theorem ok__law_pick (T : Txt P w K mg base) {f : Addr} {fd : FuncData} (F : FunD K "_law_pick" "_law_pick" (defArgs s__law_pick) (defBody s__law_pick) (defScope s__law_pick) [] [] f fd) : FnOk P w K mg base CX0 2 f fd ["heap", "some"] (spD K φ__law_pick) :=
  fn_ok (N := ["heap", "some"]) (k := 1) (m := m__law_pick) F sc__law_pick (by decide) fun h F0 H0 cdv A outer s H E hr =>
    (s_one (s_ret (d_ix (d_of_var (pv 1)) (d_call (c__law_draw T) (hr.mono (by decide)) rfl (d_cons (d_of_var (pv 0)) (d_cons (d_bi ca_len call_len rfl T.b_len (by decide +kernel) (d_cons (d_of_var (pv 1)) d_nil)) d_nil))) (fun _ _ => rfl))))
theorem c__law_pick (T : Txt P w K mg base) : Fc P w K mg base 2 "_law_pick" φ__law_pick := by
  obtain ⟨f, fd, F, g⟩ := T.d__law_pick
  exact fc_of (ok__law_pick T F) g F.kp (F.bindsN fun _ _ _ _ _ _ us hl => match us, hl with | [_, _], _ => rfl)
theorem sc__law_same : FnScope ["value", "due", "at"] ["value", "due"] (defScope s__law_same) := ⟨rfl, rfl, rfl, by decide +kernel, rfl, by decide +kernel, by decide +kernel⟩
noncomputable def m__law_same (r_ : Fn) : SM := (mSeq (mIte (mT (mIsi "tuple" (mVar 1)))
    (mRet (mAnd (mIsi "tuple" (mVar 0)) (mAnd (mOp eqD (mB lenD (mCons (mVar 0) mNil)) (mB lenD (mCons (mVar 1) mNil))) (mB allD (mCons (mF (mLc (mRg1 (mCons (mB lenD (mCons (mVar 1) mNil)) mNil)) [2] (gN 2) tYesD (mCall r_ (mCons (mOp ixD (mVar 0) (mVar 2)) (mCons (mOp ixD (mVar 1) (mVar 2)) mNil))))) mNil)))))
    mNext)
    (mSeq (mIte (tmOr (mT (mOp isD (mVar 1) (mC .none))) (mT (mIsi "str" (mVar 1))))
    (mRet (mAnd (mOp eqD (mOp isD (mVar 0) (mC .none)) (mOp isD (mVar 1) (mC .none))) (mAnd (mOp eqD (mIsi "str" (mVar 0)) (mIsi "str" (mVar 1))) (mOp eqD (mVar 0) (mVar 1)))))
    mNext)
    (mRet (mAnd (mIsi "int" (mVar 0)) (mAnd (mOp eqD (mIsi "bool" (mVar 0)) (mIsi "bool" (mVar 1))) (mOp eqD (mVar 0) (mVar 1)))))))
noncomputable def φ__law_same : Nat → Fn
  | 0 => fun _ _ => none
  | k + 1 => mFun 2 3 (m__law_same (φ__law_same k))
theorem c__law_same (T : Txt P w K mg base) : ∀ k : Nat, Fc P w K mg base (1 + k) "_law_same" (φ__law_same k)
  | 0 => by
    obtain ⟨f, fd, F, g⟩ := T.d__law_same
    exact fc_of (ps := ["value", "due"]) (fn_none _) g F.kp (F.bindsN fun _ _ _ _ _ _ us hl => match us, hl with | [_, _], _ => rfl)
  | k + 1 => by
    have c_r := c__law_same T k
    obtain ⟨f, fd, F, g⟩ := T.d__law_same
    exact fc_of (fn_ok (m := m__law_same (φ__law_same k)) F sc__law_same (by decide) fun h F0 H0 cdv A outer s H E hr =>
    (s_cons (s_if (d_tval (d_isi rfl T.b_isinstance (by decide +kernel) rfl T.b_tuple (by decide +kernel) (d_of_var (pv 1))))
    (s_one (s_ret (d_andV (d_isi rfl T.b_isinstance (by decide +kernel) rfl T.b_tuple (by decide +kernel) (d_of_var (pv 0))) (d_andV (d_cmp od_eq (op_eqD hr.units) (d_bi ca_len call_len rfl T.b_len (by decide +kernel) (d_cons (d_of_var (pv 0)) d_nil)) (d_bi ca_len call_len rfl T.b_len (by decide +kernel) (d_cons (d_of_var (pv 1)) d_nil))) (d_one (d_bi ca_all (cr_all rfl) rfl T.b_all (by decide +kernel) (d_cons (d_known (d_lc (own := [("at", 2)]) rfl sc__law_same.nd (i_rg1 rfl T.b_range (d_cons (d_bi ca_len call_len rfl T.b_len (by decide +kernel) (d_cons (d_of_var (pv 1)) d_nil)) d_nil)) (blkOk_by (N := ["value", "due", "at"]) (sc := defScope s__law_same) (by decide +kernel)) (fun _ _ _ _ _ => (g_name (i := 2) sc__law_same.nd rfl (by first | exact Or.inl rfl | exact Or.inr rfl))) (fun _ _ _ _ _ => d_yes) (fun _ _ _ _ _ => (d_call c_r hr rfl (d_cons (d_ix (d_of_var (pv 0)) (d_of_var (pv 2)) (fun _ _ => rfl)) (d_cons (d_ix (d_of_var (pv 1)) (d_of_var (pv 2)) (fun _ _ => rfl)) d_nil)))) (by decide))) d_nil)))))))
    s_nil)
    (s_cons (s_if (PW.pt (d_or (d_tcmp od_is op_isA (d_of_var (pv 1)) d_non) (d_or1 (d_tval (d_isi rfl T.b_isinstance (by decide +kernel) rfl T.b_str (by decide +kernel) (d_of_var (pv 1)))))))
    (s_one (s_ret (d_andV (d_cmp od_eq (op_eqD hr.units) (d_cmp od_is op_isA (d_of_var (pv 0)) d_non) (d_cmp od_is op_isA (d_of_var (pv 1)) d_non)) (d_andV (d_cmp od_eq (op_eqD hr.units) (d_isi rfl T.b_isinstance (by decide +kernel) rfl T.b_str (by decide +kernel) (d_of_var (pv 0))) (d_isi rfl T.b_isinstance (by decide +kernel) rfl T.b_str (by decide +kernel) (d_of_var (pv 1)))) (d_one (d_cmp od_eq (op_eqD hr.units) (d_of_var (pv 0)) (d_of_var (pv 1))))))))
    s_nil)
    (s_one (s_ret (d_andV (d_isi rfl T.b_isinstance (by decide +kernel) rfl T.b_int (by decide +kernel) (d_of_var (pv 0))) (d_andV (d_cmp od_eq (op_eqD hr.units) (d_isi rfl T.b_isinstance (by decide +kernel) rfl T.b_bool (by decide +kernel) (d_of_var (pv 0))) (d_isi rfl T.b_isinstance (by decide +kernel) rfl T.b_bool (by decide +kernel) (d_of_var (pv 1)))) (d_one (d_cmp od_eq (op_eqD hr.units) (d_of_var (pv 0)) (d_of_var (pv 1))))))))))) g F.kp (F.bindsN fun _ _ _ _ _ _ us hl => match us, hl with | [_, _], _ => rfl)
noncomputable def mA__law_same : SM := (mSeq (mIte (mT (mIsi "tuple" (mVar 1)))
    mNever
    mNext)
    (mSeq (mIte (tmOr (mT (mOp isD (mVar 1) (mC .none))) (mT (mIsi "str" (mVar 1))))
    (mRet (mAnd (mOp eqD (mOp isD (mVar 0) (mC .none)) (mOp isD (mVar 1) (mC .none))) (mAnd (mOp eqD (mIsi "str" (mVar 0)) (mIsi "str" (mVar 1))) (mOp eqD (mVar 0) (mVar 1)))))
    mNext)
    (mRet (mAnd (mIsi "int" (mVar 0)) (mAnd (mOp eqD (mIsi "bool" (mVar 0)) (mIsi "bool" (mVar 1))) (mOp eqD (mVar 0) (mVar 1)))))))
noncomputable def φA__law_same : Fn := mFun 2 3 mA__law_same
theorem okA__law_same (T : Txt P w K mg base) {f : Addr} {fd : FuncData} (F : FunD K "_law_same" "_law_same" (defArgs s__law_same) (defBody s__law_same) (defScope s__law_same) [] [] f fd) : FnA P w K mg base 1 f fd ["value", "due"] (spD K φA__law_same) :=
  fn_okA (N := ["value", "due", "at"]) (k := 0) (m := mA__law_same) F sc__law_same (by decide) fun h F0 H0 cdv A outer s H E hr =>
    (s_cons (s_if (d_tval (d_isi rfl T.b_isinstance (by decide +kernel) rfl T.b_tuple (by decide +kernel) (d_of_var (pv 1))))
    (s_one s_never)
    s_nil)
    (s_cons (s_if (PW.pt (d_or (d_tcmp od_is op_isA (d_of_var (pv 1)) d_non) (d_or1 (d_tval (d_isi rfl T.b_isinstance (by decide +kernel) rfl T.b_str (by decide +kernel) (d_of_var (pv 1)))))))
    (s_one (s_ret (d_andV (d_cmp od_eq (op_eqD (roomH_units hr)) (d_cmp od_is op_isA (d_of_var (pv 0)) d_non) (d_cmp od_is op_isA (d_of_var (pv 1)) d_non)) (d_andV (d_cmp od_eq (op_eqD (roomH_units hr)) (d_isi rfl T.b_isinstance (by decide +kernel) rfl T.b_str (by decide +kernel) (d_of_var (pv 0))) (d_isi rfl T.b_isinstance (by decide +kernel) rfl T.b_str (by decide +kernel) (d_of_var (pv 1)))) (d_one (d_cmp od_eq (op_eqD (roomH_units hr)) (d_of_var (pv 0)) (d_of_var (pv 1))))))))
    s_nil)
    (s_one (s_ret (d_andV (d_isi rfl T.b_isinstance (by decide +kernel) rfl T.b_int (by decide +kernel) (d_of_var (pv 0))) (d_andV (d_cmp od_eq (op_eqD (roomH_units hr)) (d_isi rfl T.b_isinstance (by decide +kernel) rfl T.b_bool (by decide +kernel) (d_of_var (pv 0))) (d_isi rfl T.b_isinstance (by decide +kernel) rfl T.b_bool (by decide +kernel) (d_of_var (pv 1)))) (d_one (d_cmp od_eq (op_eqD (roomH_units hr)) (d_of_var (pv 0)) (d_of_var (pv 1))))))))))
theorem cA__law_same (T : Txt P w K mg base) : FcA P w K mg base 1 "_law_same" φA__law_same := by
  obtain ⟨f, fd, F, g⟩ := T.d__law_same
  exact fcA_of F (okA__law_same T F) g (F.bindsN fun _ _ _ _ _ _ us hl => match us, hl with | [_, _], _ => rfl)
-- by hand: _law_refused
theorem sc__law_gcd : FnScope ["one", "other"] ["one", "other"] (defScope s__law_gcd) := ⟨rfl, rfl, rfl, by decide +kernel, rfl, by decide +kernel, by decide +kernel⟩
noncomputable def m__law_gcd : SM := (mSeq (mWhile (mT (mOp neD (mVar 1) (mC (.int 0))))
    (mPar2 0 1 (mmE (mVar 1) (mmE (mOp modD (mB intD (mCons (mVar 0) mNil)) (mVar 1)) mmNil))))
    (mRet (mVar 0)))
noncomputable def φ__law_gcd : Fn := mFun 2 2 m__law_gcd
theorem ok__law_gcd (T : Txt P w K mg base) {f : Addr} {fd : FuncData} (F : FunD K "_law_gcd" "_law_gcd" (defArgs s__law_gcd) (defBody s__law_gcd) (defScope s__law_gcd) [] [] f fd) : FnOk P w K mg base CX0 1 f fd ["one", "other"] (spD K φ__law_gcd) :=
  fn_ok (N := ["one", "other"]) (k := 0) (m := m__law_gcd) F sc__law_gcd (by decide) fun h F0 H0 cdv A outer s H E hr =>
    (s_cons (s_while PassesOwn.never (d_tcmp od_ne (op_neD hr.units) (d_of_var (pv 1)) d_int)
    (s_one (s_par2 (i := 0) (j := 1) rfl sc__law_gcd.nd rfl rfl (by decide) rfl rfl (mm_e (d_of_var (pv 1)) (mm_e (d_bin od_mod op_modN (d_ty ca_int call_int1 rfl T.b_int (by decide +kernel) (d_cons (d_of_var (pv 0)) d_nil)) (d_of_var (pv 1))) mm_nil)) rfl)))
    (s_one (s_ret (d_of_var (pv 0)))))
theorem c__law_gcd (T : Txt P w K mg base) : Fc P w K mg base 1 "_law_gcd" φ__law_gcd := by
  obtain ⟨f, fd, F, g⟩ := T.d__law_gcd
  exact fc_of (ok__law_gcd T F) g F.kp (F.bindsN fun _ _ _ _ _ _ us hl => match us, hl with | [_, _], _ => rfl)
theorem sc__law_frac : FnScope ["top", "bottom", "common"] ["top", "bottom"] (defScope s__law_frac) := ⟨rfl, rfl, rfl, by decide +kernel, rfl, by decide +kernel, by decide +kernel⟩
noncomputable def m__law_frac : SM := (mSeq (mSet 2 (mOp mulD (mCall φ__law_gcd (mCons (mB absD (mCons (mVar 0) mNil)) (mCons (mB absD (mCons (mVar 1) mNil)) mNil))) (mIf (mT (mOp gtD (mVar 1) (mC (.int 0)))) (mC (.int 1)) (mOp subD (mC (.int 0)) (mC (.int 1))))))
    (mRet (mTup (mCons (mOp divD (mVar 0) (mVar 2)) (mCons (mOp divD (mVar 1) (mVar 2)) mNil)))))
noncomputable def φ__law_frac : Fn := mFun 2 3 m__law_frac
theorem ok__law_frac (T : Txt P w K mg base) {f : Addr} {fd : FuncData} (F : FunD K "_law_frac" "_law_frac" (defArgs s__law_frac) (defBody s__law_frac) (defScope s__law_frac) [] [] f fd) : FnOk P w K mg base CX0 2 f fd ["top", "bottom"] (spD K φ__law_frac) :=
  fn_ok (N := ["top", "bottom", "common"]) (k := 1) (m := m__law_frac) F sc__law_frac (by decide) fun h F0 H0 cdv A outer s H E hr =>
    (s_cons (s_set (i := 2) sc__law_frac.nd rfl (by first | exact Or.inl rfl | exact Or.inr rfl) (d_bin od_mul op_mulA (d_call (c__law_gcd T) (hr.mono (by decide)) rfl (d_cons (d_bi ca_abs call_abs rfl T.b_abs (by decide +kernel) (d_cons (d_of_var (pv 0)) d_nil)) (d_cons (d_bi ca_abs call_abs rfl T.b_abs (by decide +kernel) (d_cons (d_of_var (pv 1)) d_nil)) d_nil))) (d_if (d_tcmp od_gt op_gt (d_of_var (pv 1)) d_int) d_int (d_bin od_sub op_sub d_int d_int))))
    (s_one (s_ret (d_tup (d_cons (d_bin od_div op_fdivG (d_of_var (pv 0)) (d_of_var (pv 2))) (d_cons (d_bin od_div op_fdivG (d_of_var (pv 1)) (d_of_var (pv 2))) d_nil))))))
theorem c__law_frac (T : Txt P w K mg base) : Fc P w K mg base 2 "_law_frac" φ__law_frac := by
  obtain ⟨f, fd, F, g⟩ := T.d__law_frac
  exact fc_of (ok__law_frac T F) g F.kp (F.bindsN fun _ _ _ _ _ _ us hl => match us, hl with | [_, _], _ => rfl)
theorem sc__law_is_frac : FnScope ["value", "one"] ["value"] (defScope s__law_is_frac) := ⟨rfl, rfl, rfl, by decide +kernel, rfl, by decide +kernel, by decide +kernel⟩
noncomputable def m__law_is_frac : SM := (mSeq (mIte (tmOr (tmNot (mT (mIsi "tuple" (mVar 0)))) (mT (mOp neD (mB lenD (mCons (mVar 0) mNil)) (mC (.int 2)))))
    (mRet (mC (.bool false)))
    mNext)
    (mSeq (mIte (tmOr (tmNot (mT (mB allD (mCons (mF (mLc (mItems (mVar 0)) [1] (gN 1) tYesD (mAnd (mIsi "int" (mVar 1)) (mNot (mIsi "bool" (mVar 1)))))) mNil)))) (mT (mOp ltD (mOp ixD (mVar 0) (mC (.int 1))) (mC (.int 1)))))
    (mRet (mC (.bool false)))
    mNext)
    (mRet (mOp eqD (mCall φ__law_gcd (mCons (mB absD (mCons (mOp ixD (mVar 0) (mC (.int 0))) mNil)) (mCons (mOp ixD (mVar 0) (mC (.int 1))) mNil))) (mC (.int 1))))))
noncomputable def φ__law_is_frac : Fn := mFun 1 2 m__law_is_frac
theorem ok__law_is_frac (T : Txt P w K mg base) {f : Addr} {fd : FuncData} (F : FunD K "_law_is_frac" "_law_is_frac" (defArgs s__law_is_frac) (defBody s__law_is_frac) (defScope s__law_is_frac) [] [] f fd) : FnOk P w K mg base CX0 2 f fd ["value"] (spD K φ__law_is_frac) :=
  fn_ok (N := ["value", "one"]) (k := 1) (m := m__law_is_frac) F sc__law_is_frac (by decide) fun h F0 H0 cdv A outer s H E hr =>
    (s_cons (s_if (PW.pt (d_or (d_not (d_tval (d_isi rfl T.b_isinstance (by decide +kernel) rfl T.b_tuple (by decide +kernel) (d_of_var (pv 0))))) (d_or1 (d_tcmp od_ne (op_neD hr.units) (d_bi ca_len call_len rfl T.b_len (by decide +kernel) (d_cons (d_of_var (pv 0)) d_nil)) d_int))))
    (s_one (s_ret d_bl))
    s_nil)
    (s_cons (s_if (PW.pt (d_or (d_not (d_tval (d_bi ca_all (cr_all rfl) rfl T.b_all (by decide +kernel) (d_cons (d_known (d_lc (own := [("one", 1)]) rfl sc__law_is_frac.nd (i_seq (d_of_var (pv 0))) (blkOk_by (N := ["value", "one"]) (sc := defScope s__law_is_frac) (by decide +kernel)) (fun _ _ _ _ _ => (g_name (i := 1) sc__law_is_frac.nd rfl (by first | exact Or.inl rfl | exact Or.inr rfl))) (fun _ _ _ _ _ => d_yes) (fun _ _ _ _ _ => (d_andV (d_isi rfl T.b_isinstance (by decide +kernel) rfl T.b_int (by decide +kernel) (d_of_var (pv 1))) (d_one (d_notV (d_isi rfl T.b_isinstance (by decide +kernel) rfl T.b_bool (by decide +kernel) (d_of_var (pv 1))))))) (by decide))) d_nil)))) (d_or1 (d_tcmp od_lt op_lt (d_ix (d_of_var (pv 0)) d_int (fun _ _ => rfl)) d_int))))
    (s_one (s_ret d_bl))
    s_nil)
    (s_one (s_ret (d_cmp od_eq (op_eqD hr.units) (d_call (c__law_gcd T) (hr.mono (by decide)) rfl (d_cons (d_bi ca_abs call_abs rfl T.b_abs (by decide +kernel) (d_cons (d_ix (d_of_var (pv 0)) d_int (fun _ _ => rfl)) d_nil)) (d_cons (d_ix (d_of_var (pv 0)) d_int (fun _ _ => rfl)) d_nil))) d_int)))))
theorem c__law_is_frac (T : Txt P w K mg base) : Fc P w K mg base 2 "_law_is_frac" φ__law_is_frac := by
  obtain ⟨f, fd, F, g⟩ := T.d__law_is_frac
  exact fc_of (ok__law_is_frac T F) g F.kp (F.bindsN fun _ _ _ _ _ _ us hl => match us, hl with | [_], _ => rfl)
theorem sc__law_quotients : FnScope ["heap", "most", "row", "turn"] ["heap"] (defScope s__law_quotients) := ⟨rfl, rfl, rfl, by decide +kernel, rfl, by decide +kernel, by decide +kernel⟩
noncomputable def m__law_quotients : SM := (mSeq (mSet 1 (mCall φ__law_pick (mCons (mVar 0) (mCons (mF (mLst (mCons (mC (.int 1)) (mCons (mC (.int 3)) (mCons (mC (.int 9)) (mCons (mOp powD (mC (.int 10)) (mC (.int 6))) (mCons (mOp powD (mC (.int 10)) (mC (.int 60))) mNil))))))) mNil))))
    (mSeq (mSetO 2 (mLst (mCons (mOp subD (mCall φ__law_draw (mCons (mVar 0) (mCons (mOp addD (mOp mulD (mC (.int 2)) (mVar 1)) (mC (.int 1))) mNil))) (mVar 1)) mNil)))
    (mSeq (mFor (mRg1 (mCons (mOp addD (mC (.int 1)) (mCall φ__law_draw (mCons (mVar 0) (mCons (mC (.int 30)) mNil)))) mNil)) (gN 3)
    (mApp 2 (mOp addD (mC (.int 1)) (mCall φ__law_draw (mCons (mVar 0) (mCons (mCall φ__law_pick (mCons (mVar 0) (mCons (mF (mLst (mCons (mC (.int 1)) (mCons (mC (.int 2)) (mCons (mVar 1) mNil))))) mNil))) mNil))))))
    (mFrz 2 (mRet (mF (mCatL (mVar 2) (mF (mLst (mCons (mOp addD (mC (.int 2)) (mCall φ__law_draw (mCons (mVar 0) (mCons (mVar 1) mNil)))) mNil))))))))))
noncomputable def φ__law_quotients : Fn := mFun 1 4 m__law_quotients
theorem ok__law_quotients (T : Txt P w K mg base) {f : Addr} {fd : FuncData} (F : FunD K "_law_quotients" "_law_quotients" (defArgs s__law_quotients) (defBody s__law_quotients) (defScope s__law_quotients) [] [] f fd) : FnOk P w K mg base CX0 3 f fd ["heap"] (spD K φ__law_quotients) :=
  fn_ok (N := ["heap", "most", "row", "turn"]) (k := 2) (m := m__law_quotients) F sc__law_quotients (by decide) fun h F0 H0 cdv A outer s H E hr =>
    (s_cons (s_set (i := 1) sc__law_quotients.nd rfl (by first | exact Or.inl rfl | exact Or.inr rfl) (d_call (c__law_pick T) (hr.mono (by decide)) rfl (d_cons (d_of_var (pv 0)) (d_cons (d_known (d_lst (d_cons d_int (d_cons d_int (d_cons d_int (d_cons (d_bin od_pow op_pow d_int d_int) (d_cons (d_bin od_pow op_pow d_int d_int) d_nil))))))) d_nil))))
    (s_cons (s_setO (i := 2) sc__law_quotients.nd rfl (by first | exact Or.inl rfl | exact Or.inr rfl) (d_lst (d_cons (d_bin od_sub op_sub (d_call (c__law_draw T) (hr.mono (by decide)) rfl (d_cons (d_of_var (pv 0)) (d_cons (d_bin od_add op_addA (d_bin od_mul op_mulA d_int (d_of_var (pv 1))) d_int) d_nil))) (d_of_var (pv 1))) d_nil)))
    (s_cons (s_for PassesOwn.never rfl (i_rg1 rfl T.b_range (d_cons (d_bin od_add op_addA d_int (d_call (c__law_draw T) (hr.mono (by decide)) rfl (d_cons (d_of_var (pv 0)) (d_cons d_int d_nil)))) d_nil)) (g_name (i := 3) sc__law_quotients.nd rfl (by first | exact Or.inl rfl | exact Or.inr rfl))
    (s_one (s_app (pv 2) (x_of (d_bin od_add op_addA d_int (d_call (c__law_draw T) (hr.mono (by decide)) rfl (d_cons (d_of_var (pv 0)) (d_cons (d_call (c__law_pick T) (hr.mono (by decide)) rfl (d_cons (d_of_var (pv 0)) (d_cons (d_known (d_lst (d_cons d_int (d_cons d_int (d_cons (d_of_var (pv 1)) d_nil))))) d_nil))) d_nil))))))))
    (s_one (s_frz (i := 2) (s_ret (d_known (d_catL (d_of_var (pv 2)) (d_known (d_lst (d_cons (d_bin od_add op_addA d_int (d_call (c__law_draw T) (hr.mono (by decide)) rfl (d_cons (d_of_var (pv 0)) (d_cons (d_of_var (pv 1)) d_nil)))) d_nil)))))))))))
theorem c__law_quotients (T : Txt P w K mg base) : Fc P w K mg base 3 "_law_quotients" φ__law_quotients := by
  obtain ⟨f, fd, F, g⟩ := T.d__law_quotients
  exact fc_of (ok__law_quotients T F) g F.kp (F.bindsN fun _ _ _ _ _ _ us hl => match us, hl with | [_], _ => rfl)
theorem sc__law_neighbours : FnScope ["row", "one", "found", "last", "top", "bottom"] ["row"] (defScope s__law_neighbours) := ⟨rfl, rfl, rfl, by decide +kernel, rfl, by decide +kernel, by decide +kernel⟩
noncomputable def m__law_neighbours : SM := (mSeq (mPar2 2 3 (mmL (mLst (mCons (mTup (mCons (mOp ixD (mVar 0) (mC (.int 0))) (mCons (mC (.int 1)) mNil))) mNil)) (mmE (mTup (mCons (mC (.int 1)) (mCons (mC (.int 0)) mNil))) mmNil)))
    (mSeq (mFor (mItems (mSl (mVar 0) (moI (mC (.int 1))) moN)) (gN 1)
    (mSeq (mAsg (mIxV 2 (mOp subD (mView (mB lenD (mCons (mVar 2) mNil))) (mC (.int 1)))) (gT 2 (gsCons (gN 4) (gsCons (gN 5) gsNil))))
    (mSeq (mApp 2 (mTup (mCons (mOp addD (mOp mulD (mVar 1) (mVar 4)) (mOp ixD (mVar 3) (mC (.int 0)))) (mCons (mOp addD (mOp mulD (mVar 1) (mVar 5)) (mOp ixD (mVar 3) (mC (.int 1)))) mNil))))
    (mSet 3 (mTup (mCons (mVar 4) (mCons (mVar 5) mNil)))))))
    (mFrz 2 (mRet (mVar 2)))))
noncomputable def φ__law_neighbours : Fn := mFun 1 6 m__law_neighbours
theorem ok__law_neighbours (T : Txt P w K mg base) {f : Addr} {fd : FuncData} (F : FunD K "_law_neighbours" "_law_neighbours" (defArgs s__law_neighbours) (defBody s__law_neighbours) (defScope s__law_neighbours) [] [] f fd) : FnOk P w K mg base CX0 1 f fd ["row"] (spD K φ__law_neighbours) :=
  fn_ok (N := ["row", "one", "found", "last", "top", "bottom"]) (k := 0) (m := m__law_neighbours) F sc__law_neighbours (by decide) fun h F0 H0 cdv A outer s H E hr =>
    (s_cons (s_par2 (i := 2) (j := 3) rfl sc__law_neighbours.nd rfl rfl (by decide) rfl rfl (mm_l (d_lst (d_cons (d_tup (d_cons (d_ix (d_of_var (pv 0)) d_int (fun _ _ => rfl)) (d_cons d_int d_nil))) d_nil)) (mm_e (d_tup (d_cons d_int (d_cons d_int d_nil))) mm_nil)) rfl)
    (s_cons (s_for PassesOwn.never rfl (i_seq (d_sl (d_of_var (pv 0)) (o_some d_int) o_none)) (g_name (i := 1) sc__law_neighbours.nd rfl (by first | exact Or.inl rfl | exact Or.inr rfl))
    (s_cons (s_asg (d_ixV (pv 2) (d_bin od_sub op_sub (d_view (d_bi ca_len call_len rfl T.b_len (by decide +kernel) (d_cons (d_of_var (pv 2)) d_nil))) d_int) (fun _ _ => rfl)) (g_tup rfl (g_cons (g_name (i := 4) sc__law_neighbours.nd rfl (by first | exact Or.inl rfl | exact Or.inr rfl)) (g_cons (g_name (i := 5) sc__law_neighbours.nd rfl (by first | exact Or.inl rfl | exact Or.inr rfl)) g_nil))))
    (s_cons (s_app (pv 2) (x_of (d_tup (d_cons (d_bin od_add op_addA (d_bin od_mul op_mulA (d_of_var (pv 1)) (d_of_var (pv 4))) (d_ix (d_of_var (pv 3)) d_int (fun _ _ => rfl))) (d_cons (d_bin od_add op_addA (d_bin od_mul op_mulA (d_of_var (pv 1)) (d_of_var (pv 5))) (d_ix (d_of_var (pv 3)) d_int (fun _ _ => rfl))) d_nil)))))
    (s_one (s_set (i := 3) sc__law_neighbours.nd rfl (by first | exact Or.inl rfl | exact Or.inr rfl) (d_tup (d_cons (d_of_var (pv 4)) (d_cons (d_of_var (pv 5)) d_nil))))))))
    (s_one (s_frz (i := 2) (s_ret (d_of_var (pv 2)))))))
theorem c__law_neighbours (T : Txt P w K mg base) : Fc P w K mg base 1 "_law_neighbours" φ__law_neighbours := by
  obtain ⟨f, fd, F, g⟩ := T.d__law_neighbours
  exact fc_of (ok__law_neighbours T F) g F.kp (F.bindsN fun _ _ _ _ _ _ us hl => match us, hl with | [_], _ => rfl)
theorem sc__law_turned : FnScope ["heap", "row", "turn", "found", "rest"] ["heap", "row"] (defScope s__law_turned) := ⟨rfl, rfl, rfl, by decide +kernel, rfl, by decide +kernel, by decide +kernel⟩
noncomputable def m__law_turned : SM := (mSeq (mPar2 3 4 (mmL (mLst mNil) (mmL (mBL listL (mCons (mVar 1) mNil)) mmNil)))
    (mSeq (mFor (mRg1 (mCons (mB lenD (mCons (mVar 1) mNil)) mNil)) (gN 2)
    (mAppX 3 (xPopAt 4 (mCall φ__law_draw (mCons (mVar 0) (mCons (mView (mB lenD (mCons (mVar 4) mNil))) mNil))))))
    (mFrz 3 (mRet (mIf (mT (mOp eqD (mCall φ__law_draw (mCons (mVar 0) (mCons (mC (.int 2)) mNil))) (mC (.int 0)))) (mVar 3) (mB tupleD (mCons (mVar 3) mNil)))))))
noncomputable def φ__law_turned : Fn := mFun 2 5 m__law_turned
theorem ok__law_turned (T : Txt P w K mg base) {f : Addr} {fd : FuncData} (F : FunD K "_law_turned" "_law_turned" (defArgs s__law_turned) (defBody s__law_turned) (defScope s__law_turned) [] [] f fd) : FnOk P w K mg base CX0 2 f fd ["heap", "row"] (spD K φ__law_turned) :=
  fn_ok (N := ["heap", "row", "turn", "found", "rest"]) (k := 1) (m := m__law_turned) F sc__law_turned (by decide) fun h F0 H0 cdv A outer s H E hr =>
    (s_cons (s_par2 (i := 3) (j := 4) rfl sc__law_turned.nd rfl rfl (by decide) rfl rfl (mm_l (d_lst d_nil) (mm_l (d_tyL cl_list call_list_of rfl (T.b_list) (by decide +kernel) (d_cons (d_of_var (pv 1)) d_nil)) mm_nil)) rfl)
    (s_cons (s_for PassesOwn.never rfl (i_rg1 rfl T.b_range (d_cons (d_bi ca_len call_len rfl T.b_len (by decide +kernel) (d_cons (d_of_var (pv 1)) d_nil)) d_nil)) (g_name (i := 2) sc__law_turned.nd rfl (by first | exact Or.inl rfl | exact Or.inr rfl))
    (s_one (s_app (pv 3) (x_popAt (pv 4) (d_call (c__law_draw T) (hr.mono (by decide)) rfl (d_cons (d_of_var (pv 0)) (d_cons (d_view (d_bi ca_len call_len rfl T.b_len (by decide +kernel) (d_cons (d_of_var (pv 4)) d_nil))) d_nil)))))))
    (s_one (s_frz (i := 3) (s_ret (d_if (d_tcmp od_eq (op_eqD hr.units) (d_call (c__law_draw T) (hr.mono (by decide)) rfl (d_cons (d_of_var (pv 0)) (d_cons d_int d_nil))) d_int) (d_of_var (pv 3)) (d_ty ca_tuple call_tuple_of rfl T.b_tuple (by decide +kernel) (d_cons (d_of_var (pv 3)) d_nil))))))))
theorem c__law_turned (T : Txt P w K mg base) : Fc P w K mg base 2 "_law_turned" φ__law_turned := by
  obtain ⟨f, fd, F, g⟩ := T.d__law_turned
  exact fc_of (ok__law_turned T F) g F.kp (F.bindsN fun _ _ _ _ _ _ us hl => match us, hl with | [_, _], _ => rfl)
theorem sc__law_back : FnScope ["row", "told", "at", "one"] ["row", "told"] (defScope s__law_back) := ⟨rfl, rfl, rfl, by decide +kernel, rfl, by decide +kernel, by decide +kernel⟩
noncomputable def m__law_back : SM := (mSeq (mFor (mEnum (mCons (mVar 0) mNil)) (gT 2 (gsCons (gN 2) (gsCons (gN 3) gsNil)))
    (mSeq (mIte (tmNot (mT (mCall (φ__law_same 12) (mCons (mCall φ_floor_of (mCons (mVar 1) mNil)) (mCons (mVar 3) mNil)))))
    (mRet (mC (.bool false)))
    mNext)
    (mSeq (mSet 1 (mCall φ_less (mCons (mVar 1) (mCons (mTup (mCons (mVar 3) (mCons (mC (.int 1)) mNil))) mNil))))
    (mSeq (mIte (mT (mOp eqD (mVar 2) (mOp subD (mB lenD (mCons (mVar 0) mNil)) (mC (.int 1)))))
    (mRet (mCall (φ__law_same 12) (mCons (mVar 1) (mCons (mTup (mCons (mC (.int 0)) (mCons (mC (.int 1)) mNil))) mNil))))
    mNext)
    (mSet 1 (mCall φ_over (mCons (mTup (mCons (mC (.int 1)) (mCons (mC (.int 1)) mNil))) (mCons (mVar 1) mNil))))))))
    (mRet (mC (.bool false))))
noncomputable def φ__law_back : Fn := mFun 2 4 m__law_back
theorem ok__law_back (T : Txt P w K mg base) {f : Addr} {fd : FuncData} (F : FunD K "_law_back" "_law_back" (defArgs s__law_back) (defBody s__law_back) (defScope s__law_back) [] [] f fd) : FnOk P w K mg base CX0 36 f fd ["row", "told"] (spD K φ__law_back) :=
  fn_ok (N := ["row", "told", "at", "one"]) (k := 35) (m := m__law_back) F sc__law_back (by decide) fun h F0 H0 cdv A outer s H E hr =>
    (s_cons (s_for PassesOwn.never rfl (i_enum rfl T.b_enumerate (d_cons (d_of_var (pv 0)) d_nil)) (g_tup rfl (g_cons (g_name (i := 2) sc__law_back.nd rfl (by first | exact Or.inl rfl | exact Or.inr rfl)) (g_cons (g_name (i := 3) sc__law_back.nd rfl (by first | exact Or.inl rfl | exact Or.inr rfl)) g_nil)))
    (s_cons (s_if (d_not (d_tval (d_call (c__law_same T 12) (hr.mono (by decide)) rfl (d_cons (d_call (c_floor_of T) (hr.mono (by decide)) rfl (d_cons (d_of_var (pv 1)) d_nil)) (d_cons (d_of_var (pv 3)) d_nil)))))
    (s_one (s_ret d_bl))
    s_nil)
    (s_cons (s_set (i := 1) sc__law_back.nd rfl (by first | exact Or.inl rfl | exact Or.inr rfl) (d_call (c_less T) (hr.mono (by decide)) rfl (d_cons (d_of_var (pv 1)) (d_cons (d_tup (d_cons (d_of_var (pv 3)) (d_cons d_int d_nil))) d_nil))))
    (s_cons (s_if (d_tcmp od_eq (op_eqD hr.units) (d_of_var (pv 2)) (d_bin od_sub op_sub (d_bi ca_len call_len rfl T.b_len (by decide +kernel) (d_cons (d_of_var (pv 0)) d_nil)) d_int))
    (s_one (s_ret (d_call (c__law_same T 12) (hr.mono (by decide)) rfl (d_cons (d_of_var (pv 1)) (d_cons (d_tup (d_cons d_int (d_cons d_int d_nil))) d_nil)))))
    s_nil)
    (s_one (s_set (i := 1) sc__law_back.nd rfl (by first | exact Or.inl rfl | exact Or.inr rfl) (d_call (c_over T) (hr.mono (by decide)) rfl (d_cons (d_tup (d_cons d_int (d_cons d_int d_nil))) (d_cons (d_of_var (pv 1)) d_nil)))))))))
    (s_one (s_ret d_bl)))
theorem c__law_back (T : Txt P w K mg base) : Fc P w K mg base 36 "_law_back" φ__law_back := by
  obtain ⟨f, fd, F, g⟩ := T.d__law_back
  exact fc_of (ok__law_back T F) g F.kp (F.bindsN fun _ _ _ _ _ _ us hl => match us, hl with | [_, _], _ => rfl)
theorem kIn_least_of_0_row (T : Txt P w K mg base) : Fk P w K mg base 2 "least_of" 0 ["row"] gIn φ_least_of := by
  obtain ⟨f, fd, F, g⟩ := T.d_least_of
  exact ⟨f, fd, _, ok_least_of T F, g, F.kp, kbn_of F gk_in fun _ _ _ _ _ _ us ws h1 h2 => match us, ws, h1, h2 with | [], [_], _, _ => rfl⟩
theorem sc__law_neighbours_right : FnScope ["heap", "row", "at", "last", "found", "turn", "one", "other", "sign"] ["heap", "row"] (defScope s__law_neighbours_right) := ⟨rfl, rfl, rfl, by decide +kernel, rfl, by decide +kernel, by decide +kernel⟩
noncomputable def m__law_neighbours_right : SM := (mSeq (mPar2 4 5 (mmE (mCall φ__law_neighbours (mCons (mVar 1) mNil)) (mmE (mCall φ__law_draw (mCons (mVar 0) (mCons (mC (.int 2)) mNil))) mmNil)))
    (mSeq (mFor (mRg2 (mCons (mC (.int 1)) (mCons (mB lenD (mCons (mVar 4) mNil)) mNil))) (gN 2)
    (mSeq (mPar3 6 7 8 (mmE (mOp ixD (mVar 4) (mVar 2)) (mmE (mOp ixD (mVar 4) (mOp subD (mVar 2) (mC (.int 1)))) (mmE (mIf (mT (mOp eqD (mOp modD (mB intD (mCons (mVar 2) mNil)) (mC (.int 2))) (mC (.int 1)))) (mC (.int 1)) (mOp subD (mC (.int 0)) (mC (.int 1)))) mmNil))))
    (mSeq (mIte (tmOr (tmNot (mT (mCall (φ__law_same 12) (mCons (mCall φ_compared (mCons (mVar 6) (mCons (mVar 7) mNil))) (mCons (mVar 8) mNil))))) (tmOr (tmNot (mT (mCall (φ__law_same 12) (mCons (mCall φ_compared (mCons (mVar 7) (mCons (mVar 6) mNil))) (mCons (mOp subD (mC (.int 0)) (mVar 8)) mNil))))) (tmNot (mT (mCall (φ__law_same 12) (mCons (mCall φ_compared (mCons (mVar 6) (mCons (mVar 6) mNil))) (mCons (mC (.int 0)) mNil)))))))
    (mRet (mC (.bool false)))
    mNext)
    (mSeq (mIte (tmOr (tmNot (mT (mCall (φ__law_same 12) (mCons (mCall φ_less (mCons (mVar 6) (mCons (mVar 7) mNil))) (mCons (mTup (mCons (mVar 8) (mCons (mOp mulD (mOp ixD (mVar 6) (mC (.int 1))) (mOp ixD (mVar 7) (mC (.int 1)))) mNil))) mNil))))) (tmNot (mT (mCall (φ__law_same 12) (mCons (mCall φ_added (mCons (mVar 7) (mCons (mTup (mCons (mVar 8) (mCons (mOp mulD (mOp ixD (mVar 6) (mC (.int 1))) (mOp ixD (mVar 7) (mC (.int 1)))) mNil))) mNil))) (mCons (mVar 6) mNil))))))
    (mRet (mC (.bool false)))
    mNext)
    (mSeq (mIte (tmAnd (mT (mOp eqD (mVar 5) (mC (.int 0)))) (tmNot (mT (mCall (φ__law_same 12) (mCons (mCall φ_size_of (mCons (mTup (mCons (mOp subD (mC (.int 0)) (mVar 8)) (mCons (mOp mulD (mOp ixD (mVar 6) (mC (.int 1))) (mOp ixD (mVar 7) (mC (.int 1)))) mNil))) mNil)) (mCons (mTup (mCons (mC (.int 1)) (mCons (mOp mulD (mOp ixD (mVar 6) (mC (.int 1))) (mOp ixD (mVar 7) (mC (.int 1)))) mNil))) mNil))))))
    (mRet (mC (.bool false)))
    mNext)
    (mIte (tmAnd (mT (mOp neD (mOp ixD (mVar 6) (mC (.int 0))) (mC (.int 0)))) (tmNot (mT (mCall (φ__law_same 12) (mCons (mCall φ_times (mCons (mCall φ_over (mCons (mTup (mCons (mC (.int 1)) (mCons (mC (.int 1)) mNil))) (mCons (mVar 6) mNil))) (mCons (mVar 6) mNil))) (mCons (mTup (mCons (mC (.int 1)) (mCons (mC (.int 1)) mNil))) mNil))))))
    (mRet (mC (.bool false)))
    mNext))))))
    (mSeq (mIte (tmOr (tmNot (mT (mCall (φ__law_same 12) (mCons (mCall φ_greatest_of (mCons (mCall φ__law_turned (mCons (mVar 0) (mCons (mVar 4) mNil))) mNil)) (mCons (mOp ixD (mVar 4) (mC (.int 1))) mNil))))) (tmNot (mT (mCall (φ__law_same 12) (mCons (mCallK 0 1 gIn φ_least_of mNil (mCons (mCall φ__law_turned (mCons (mVar 0) (mCons (mVar 4) mNil))) mNil)) (mCons (mOp ixD (mVar 4) (mC (.int 0))) mNil))))))
    (mRet (mC (.bool false)))
    mNext)
    (mSeq (mSet 3 (mOp ixD (mVar 4) (mOp subD (mB lenD (mCons (mVar 4) mNil)) (mC (.int 1)))))
    (mRet (mAnd (mCall φ__law_back (mCons (mVar 1) (mCons (mVar 3) mNil))) (mCall (φ__law_same 12) (mCons (mCall φ_floor_of (mCons (mTup (mCons (mOp subD (mC (.int 0)) (mOp ixD (mVar 3) (mC (.int 0)))) (mCons (mOp ixD (mVar 3) (mC (.int 1))) mNil))) mNil)) (mCons (mOp subD (mOp subD (mC (.int 0)) (mOp ixD (mVar 1) (mC (.int 0)))) (mC (.int 1))) mNil)))))))))
noncomputable def φ__law_neighbours_right : Fn := mFun 2 9 m__law_neighbours_right
theorem ok__law_neighbours_right (T : Txt P w K mg base) {f : Addr} {fd : FuncData} (F : FunD K "_law_neighbours_right" "_law_neighbours_right" (defArgs s__law_neighbours_right) (defBody s__law_neighbours_right) (defScope s__law_neighbours_right) [] [] f fd) : FnOk P w K mg base CX0 37 f fd ["heap", "row"] (spD K φ__law_neighbours_right) :=
  fn_ok (N := ["heap", "row", "at", "last", "found", "turn", "one", "other", "sign"]) (k := 36) (m := m__law_neighbours_right) F sc__law_neighbours_right (by decide) fun h F0 H0 cdv A outer s H E hr =>
    (s_cons (s_par2 (i := 4) (j := 5) rfl sc__law_neighbours_right.nd rfl rfl (by decide) rfl rfl (mm_e (d_call (c__law_neighbours T) (hr.mono (by decide)) rfl (d_cons (d_of_var (pv 1)) d_nil)) (mm_e (d_call (c__law_draw T) (hr.mono (by decide)) rfl (d_cons (d_of_var (pv 0)) (d_cons d_int d_nil))) mm_nil)) rfl)
    (s_cons (s_for PassesOwn.never rfl (i_rg2 rfl T.b_range (d_cons d_int (d_cons (d_bi ca_len call_len rfl T.b_len (by decide +kernel) (d_cons (d_of_var (pv 4)) d_nil)) d_nil))) (g_name (i := 2) sc__law_neighbours_right.nd rfl (by first | exact Or.inl rfl | exact Or.inr rfl))
    (s_cons (s_par3 (i := 6) (j := 7) (l := 8) rfl sc__law_neighbours_right.nd rfl rfl rfl (by decide) (by decide) (by decide) rfl rfl rfl (mm_e (d_ix (d_of_var (pv 4)) (d_of_var (pv 2)) (fun _ _ => rfl)) (mm_e (d_ix (d_of_var (pv 4)) (d_bin od_sub op_sub (d_of_var (pv 2)) d_int) (fun _ _ => rfl)) (mm_e (d_if (d_tcmp od_eq (op_eqD hr.units) (d_bin od_mod op_modN (d_ty ca_int call_int1 rfl T.b_int (by decide +kernel) (d_cons (d_of_var (pv 2)) d_nil)) d_int) d_int) d_int (d_bin od_sub op_sub d_int d_int)) mm_nil))) rfl)
    (s_cons (s_if (PW.pt (d_or (d_not (d_tval (d_call (c__law_same T 12) (hr.mono (by decide)) rfl (d_cons (d_call (c_compared T) (hr.mono (by decide)) rfl (d_cons (d_of_var (pv 6)) (d_cons (d_of_var (pv 7)) d_nil))) (d_cons (d_of_var (pv 8)) d_nil))))) (d_or (d_not (d_tval (d_call (c__law_same T 12) (hr.mono (by decide)) rfl (d_cons (d_call (c_compared T) (hr.mono (by decide)) rfl (d_cons (d_of_var (pv 7)) (d_cons (d_of_var (pv 6)) d_nil))) (d_cons (d_bin od_sub op_sub d_int (d_of_var (pv 8))) d_nil))))) (d_or1 (d_not (d_tval (d_call (c__law_same T 12) (hr.mono (by decide)) rfl (d_cons (d_call (c_compared T) (hr.mono (by decide)) rfl (d_cons (d_of_var (pv 6)) (d_cons (d_of_var (pv 6)) d_nil))) (d_cons d_int d_nil)))))))))
    (s_one (s_ret d_bl))
    s_nil)
    (s_cons (s_if (PW.pt (d_or (d_not (d_tval (d_call (c__law_same T 12) (hr.mono (by decide)) rfl (d_cons (d_call (c_less T) (hr.mono (by decide)) rfl (d_cons (d_of_var (pv 6)) (d_cons (d_of_var (pv 7)) d_nil))) (d_cons (d_tup (d_cons (d_of_var (pv 8)) (d_cons (d_bin od_mul op_mulA (d_ix (d_of_var (pv 6)) d_int (fun _ _ => rfl)) (d_ix (d_of_var (pv 7)) d_int (fun _ _ => rfl))) d_nil))) d_nil))))) (d_or1 (d_not (d_tval (d_call (c__law_same T 12) (hr.mono (by decide)) rfl (d_cons (d_call (c_added T) (hr.mono (by decide)) rfl (d_cons (d_of_var (pv 7)) (d_cons (d_tup (d_cons (d_of_var (pv 8)) (d_cons (d_bin od_mul op_mulA (d_ix (d_of_var (pv 6)) d_int (fun _ _ => rfl)) (d_ix (d_of_var (pv 7)) d_int (fun _ _ => rfl))) d_nil))) d_nil))) (d_cons (d_of_var (pv 6)) d_nil))))))))
    (s_one (s_ret d_bl))
    s_nil)
    (s_cons (s_if (PW.pt (d_and (d_tcmp od_eq (op_eqD hr.units) (d_of_var (pv 5)) d_int) (d_and1 (d_not (d_tval (d_call (c__law_same T 12) (hr.mono (by decide)) rfl (d_cons (d_call (c_size_of T) (hr.mono (by decide)) rfl (d_cons (d_tup (d_cons (d_bin od_sub op_sub d_int (d_of_var (pv 8))) (d_cons (d_bin od_mul op_mulA (d_ix (d_of_var (pv 6)) d_int (fun _ _ => rfl)) (d_ix (d_of_var (pv 7)) d_int (fun _ _ => rfl))) d_nil))) d_nil)) (d_cons (d_tup (d_cons d_int (d_cons (d_bin od_mul op_mulA (d_ix (d_of_var (pv 6)) d_int (fun _ _ => rfl)) (d_ix (d_of_var (pv 7)) d_int (fun _ _ => rfl))) d_nil))) d_nil))))))))
    (s_one (s_ret d_bl))
    s_nil)
    (s_one (s_if (PW.pt (d_and (d_tcmp od_ne (op_neD hr.units) (d_ix (d_of_var (pv 6)) d_int (fun _ _ => rfl)) d_int) (d_and1 (d_not (d_tval (d_call (c__law_same T 12) (hr.mono (by decide)) rfl (d_cons (d_call (c_times T) (hr.mono (by decide)) rfl (d_cons (d_call (c_over T) (hr.mono (by decide)) rfl (d_cons (d_tup (d_cons d_int (d_cons d_int d_nil))) (d_cons (d_of_var (pv 6)) d_nil))) (d_cons (d_of_var (pv 6)) d_nil))) (d_cons (d_tup (d_cons d_int (d_cons d_int d_nil))) d_nil))))))))
    (s_one (s_ret d_bl))
    s_nil)))))))
    (s_cons (s_if (PW.pt (d_or (d_not (d_tval (d_call (c__law_same T 12) (hr.mono (by decide)) rfl (d_cons (d_call (c_greatest_of T) (hr.mono (by decide)) rfl (d_cons (d_call (c__law_turned T) (hr.mono (by decide)) rfl (d_cons (d_of_var (pv 0)) (d_cons (d_of_var (pv 4)) d_nil))) d_nil)) (d_cons (d_ix (d_of_var (pv 4)) d_int (fun _ _ => rfl)) d_nil))))) (d_or1 (d_not (d_tval (d_call (c__law_same T 12) (hr.mono (by decide)) rfl (d_cons (d_callK0 (kIn_least_of_0_row T) gk_in (hr.mono (by decide)) rfl (k_cons (d_call (c__law_turned T) (hr.mono (by decide)) rfl (d_cons (d_of_var (pv 0)) (d_cons (d_of_var (pv 4)) d_nil))) k_nil)) (d_cons (d_ix (d_of_var (pv 4)) d_int (fun _ _ => rfl)) d_nil))))))))
    (s_one (s_ret d_bl))
    s_nil)
    (s_cons (s_set (i := 3) sc__law_neighbours_right.nd rfl (by first | exact Or.inl rfl | exact Or.inr rfl) (d_ix (d_of_var (pv 4)) (d_bin od_sub op_sub (d_bi ca_len call_len rfl T.b_len (by decide +kernel) (d_cons (d_of_var (pv 4)) d_nil)) d_int) (fun _ _ => rfl)))
    (s_one (s_ret (d_andV (d_call (c__law_back T) (hr.mono (by decide)) rfl (d_cons (d_of_var (pv 1)) (d_cons (d_of_var (pv 3)) d_nil))) (d_one (d_call (c__law_same T 12) (hr.mono (by decide)) rfl (d_cons (d_call (c_floor_of T) (hr.mono (by decide)) rfl (d_cons (d_tup (d_cons (d_bin od_sub op_sub d_int (d_ix (d_of_var (pv 3)) d_int (fun _ _ => rfl))) (d_cons (d_ix (d_of_var (pv 3)) d_int (fun _ _ => rfl)) d_nil))) d_nil)) (d_cons (d_bin od_sub op_sub (d_bin od_sub op_sub d_int (d_ix (d_of_var (pv 1)) d_int (fun _ _ => rfl))) d_int) d_nil)))))))))))
theorem c__law_neighbours_right (T : Txt P w K mg base) : Fc P w K mg base 37 "_law_neighbours_right" φ__law_neighbours_right := by
  obtain ⟨f, fd, F, g⟩ := T.d__law_neighbours_right
  exact fc_of (ok__law_neighbours_right T F) g F.kp (F.bindsN fun _ _ _ _ _ _ us hl => match us, hl with | [_, _], _ => rfl)
theorem sc__law_forms_right : FnScope ["heap", "one", "times_by", "nought", "values", "value"] ["heap", "one"] (defScope s__law_forms_right) := ⟨rfl, rfl, rfl, by decide +kernel, rfl, by decide +kernel, by decide +kernel⟩
noncomputable def m__law_forms_right : SM := (mSeq (mSet 2 (mOp mulD (mOp addD (mC (.int 1)) (mCall φ__law_draw (mCons (mVar 0) (mCons (mCall φ__law_pick (mCons (mVar 0) (mCons (mF (mLst (mCons (mC (.int 2)) (mCons (mC (.int 100)) (mCons (mOp powD (mC (.int 10)) (mC (.int 40))) mNil))))) mNil))) mNil)))) (mCall φ__law_pick (mCons (mVar 0) (mCons (mF (mLst (mCons (mC (.int 1)) (mCons (mOp subD (mC (.int 0)) (mC (.int 1))) mNil)))) mNil)))))
    (mSeq (mIte (tmOr (tmNot (mT (mCall (φ__law_same 12) (mCons (mCall φ_frac (mCons (mOp mulD (mOp ixD (mVar 1) (mC (.int 0))) (mVar 2)) (mCons (mOp mulD (mOp ixD (mVar 1) (mC (.int 1))) (mVar 2)) mNil))) (mCons (mVar 1) mNil))))) (tmNot (mT (mCall (φ__law_same 12) (mCons (mCall φ_frac (mCons (mC (.int 0)) (mCons (mVar 2) mNil))) (mCons (mTup (mCons (mC (.int 0)) (mCons (mC (.int 1)) mNil))) mNil))))))
    (mRet (mC (.bool false)))
    mNext)
    (mSeq (mSet 3 (mCall φ__law_pick (mCons (mVar 0) (mCons (mF (mLst (mCons (mC (.int 1)) (mCons (mC (.int 2)) (mCons (mC (.int 41)) (mCons (mOp addD (mC (.int 1)) (mCall φ__law_draw (mCons (mVar 0) (mCons (mOp powD (mC (.int 10)) (mC (.int 9))) mNil)))) (mCons (mOp addD (mOp powD (mC (.int 10)) (mC (.int 40))) (mCall φ__law_draw (mCons (mVar 0) (mCons (mC (.int 9)) mNil)))) mNil))))))) mNil))))
    (mSeq (mSetO 4 (mLst (mCons (mVar 1) (mCons (mTup (mCons (mOp mulD (mOp ixD (mVar 1) (mC (.int 0))) (mVar 2)) (mCons (mOp mulD (mOp ixD (mVar 1) (mC (.int 1))) (mVar 2)) mNil))) (mCons (mTup (mCons (mOp ixD (mVar 1) (mC (.int 0))) (mCons (mOp subD (mC (.int 0)) (mOp ixD (mVar 1) (mC (.int 1)))) mNil))) (mCons (mTup (mCons (mC (.int 0)) (mCons (mVar 3) mNil))) (mCons (mTup (mCons (mC (.int 0)) (mCons (mC (.int 1)) mNil))) (mCons (mTup (mCons (mC (.int 0)) (mCons (mC (.int 0)) mNil))) (mCons (mTup (mCons (mC (.int 0)) (mCons (mOp subD (mC (.int 0)) (mC (.int 1))) mNil))) (mCons (mF (mBL listL (mCons (mVar 1) mNil))) (mCons (mOp ixD (mVar 1) (mC (.int 0))) (mCons (mC .none) mNil))))))))))))
    (mSeq (mExt 4 (mF (mLst (mCons (mTup (mCons (mOp ixD (mVar 1) (mC (.int 0))) (mCons (mOp ixD (mVar 1) (mC (.int 1))) (mCons (mC (.int 1)) mNil)))) (mCons (mSl (mVar 1) moN (moI (mC (.int 1)))) (mCons (mTup mNil) (mCons (mTup (mCons (mC (.bool true)) (mCons (mC (.int 2)) mNil))) (mCons (mTup (mCons (mC (.int 3)) (mCons (mC (.bool true)) mNil))) (mCons (mTup (mCons (mOp ixD (mVar 1) (mC (.int 0))) (mCons (mC (.int 0)) mNil))) (mCons (mTup (mCons (mB strD (mCons (mOp modD (mB intD (mCons (mOp ixD (mVar 1) (mC (.int 0))) mNil)) (mC (.int 10))) mNil)) (mCons (mC (.int 1)) mNil))) (mCons (mTup (mCons (mC (.int 1)) (mCons (mVar 3) mNil))) (mCons (mTup (mCons (mVar 3) (mCons (mC (.int 1)) mNil))) (mCons (mTup (mCons (mVar 3) (mCons (mVar 3) mNil))) (mCons (mTup (mCons (mTup (mCons (mC (.int 1)) (mCons (mC (.int 2)) mNil))) (mCons (mC (.int 1)) mNil))) mNil))))))))))))))
    (mRet (mView (mB allD (mCons (mF (mLc (mItems (mVar 4)) [5] (gN 5) tYesD (mCall (φ__law_same 12) (mCons (mCall φ_is_fraction (mCons (mVar 5) mNil)) (mCons (mCall φ__law_is_frac (mCons (mVar 5) mNil)) mNil))))) mNil)))))))))
noncomputable def φ__law_forms_right : Fn := mFun 2 6 m__law_forms_right
theorem ok__law_forms_right (T : Txt P w K mg base) {f : Addr} {fd : FuncData} (F : FunD K "_law_forms_right" "_law_forms_right" (defArgs s__law_forms_right) (defBody s__law_forms_right) (defScope s__law_forms_right) [] [] f fd) : FnOk P w K mg base CX0 35 f fd ["heap", "one"] (spD K φ__law_forms_right) :=
  fn_ok (N := ["heap", "one", "times_by", "nought", "values", "value"]) (k := 34) (m := m__law_forms_right) F sc__law_forms_right (by decide) fun h F0 H0 cdv A outer s H E hr =>
    (s_cons (s_set (i := 2) sc__law_forms_right.nd rfl (by first | exact Or.inl rfl | exact Or.inr rfl) (d_bin od_mul op_mulA (d_bin od_add op_addA d_int (d_call (c__law_draw T) (hr.mono (by decide)) rfl (d_cons (d_of_var (pv 0)) (d_cons (d_call (c__law_pick T) (hr.mono (by decide)) rfl (d_cons (d_of_var (pv 0)) (d_cons (d_known (d_lst (d_cons d_int (d_cons d_int (d_cons (d_bin od_pow op_pow d_int d_int) d_nil))))) d_nil))) d_nil)))) (d_call (c__law_pick T) (hr.mono (by decide)) rfl (d_cons (d_of_var (pv 0)) (d_cons (d_known (d_lst (d_cons d_int (d_cons (d_bin od_sub op_sub d_int d_int) d_nil)))) d_nil)))))
    (s_cons (s_if (PW.pt (d_or (d_not (d_tval (d_call (c__law_same T 12) (hr.mono (by decide)) rfl (d_cons (d_call (c_frac T) (hr.mono (by decide)) rfl (d_cons (d_bin od_mul op_mulA (d_ix (d_of_var (pv 1)) d_int (fun _ _ => rfl)) (d_of_var (pv 2))) (d_cons (d_bin od_mul op_mulA (d_ix (d_of_var (pv 1)) d_int (fun _ _ => rfl)) (d_of_var (pv 2))) d_nil))) (d_cons (d_of_var (pv 1)) d_nil))))) (d_or1 (d_not (d_tval (d_call (c__law_same T 12) (hr.mono (by decide)) rfl (d_cons (d_call (c_frac T) (hr.mono (by decide)) rfl (d_cons d_int (d_cons (d_of_var (pv 2)) d_nil))) (d_cons (d_tup (d_cons d_int (d_cons d_int d_nil))) d_nil))))))))
    (s_one (s_ret d_bl))
    s_nil)
    (s_cons (s_set (i := 3) sc__law_forms_right.nd rfl (by first | exact Or.inl rfl | exact Or.inr rfl) (d_call (c__law_pick T) (hr.mono (by decide)) rfl (d_cons (d_of_var (pv 0)) (d_cons (d_known (d_lst (d_cons d_int (d_cons d_int (d_cons d_int (d_cons (d_bin od_add op_addA d_int (d_call (c__law_draw T) (hr.mono (by decide)) rfl (d_cons (d_of_var (pv 0)) (d_cons (d_bin od_pow op_pow d_int d_int) d_nil)))) (d_cons (d_bin od_add op_addA (d_bin od_pow op_pow d_int d_int) (d_call (c__law_draw T) (hr.mono (by decide)) rfl (d_cons (d_of_var (pv 0)) (d_cons d_int d_nil)))) d_nil))))))) d_nil))))
    (s_cons (s_setO (i := 4) sc__law_forms_right.nd rfl (by first | exact Or.inl rfl | exact Or.inr rfl) (d_lst (d_cons (d_of_var (pv 1)) (d_cons (d_tup (d_cons (d_bin od_mul op_mulA (d_ix (d_of_var (pv 1)) d_int (fun _ _ => rfl)) (d_of_var (pv 2))) (d_cons (d_bin od_mul op_mulA (d_ix (d_of_var (pv 1)) d_int (fun _ _ => rfl)) (d_of_var (pv 2))) d_nil))) (d_cons (d_tup (d_cons (d_ix (d_of_var (pv 1)) d_int (fun _ _ => rfl)) (d_cons (d_bin od_sub op_sub d_int (d_ix (d_of_var (pv 1)) d_int (fun _ _ => rfl))) d_nil))) (d_cons (d_tup (d_cons d_int (d_cons (d_of_var (pv 3)) d_nil))) (d_cons (d_tup (d_cons d_int (d_cons d_int d_nil))) (d_cons (d_tup (d_cons d_int (d_cons d_int d_nil))) (d_cons (d_tup (d_cons d_int (d_cons (d_bin od_sub op_sub d_int d_int) d_nil))) (d_cons (d_known (d_tyL cl_list call_list_of rfl (T.b_list) (by decide +kernel) (d_cons (d_of_var (pv 1)) d_nil))) (d_cons (d_ix (d_of_var (pv 1)) d_int (fun _ _ => rfl)) (d_cons d_non d_nil))))))))))))
    (s_cons (s_ext (pv 4) (d_known (d_lst (d_cons (d_tup (d_cons (d_ix (d_of_var (pv 1)) d_int (fun _ _ => rfl)) (d_cons (d_ix (d_of_var (pv 1)) d_int (fun _ _ => rfl)) (d_cons d_int d_nil)))) (d_cons (d_sl (d_of_var (pv 1)) o_none (o_some d_int)) (d_cons (d_tup d_nil) (d_cons (d_tup (d_cons d_bl (d_cons d_int d_nil))) (d_cons (d_tup (d_cons d_int (d_cons d_bl d_nil))) (d_cons (d_tup (d_cons (d_ix (d_of_var (pv 1)) d_int (fun _ _ => rfl)) (d_cons d_int d_nil))) (d_cons (d_tup (d_cons (d_ty ca_str call_str_int rfl T.b_str (by decide +kernel) (d_cons (d_bin od_mod op_modN (d_ty ca_int call_int1 rfl T.b_int (by decide +kernel) (d_cons (d_ix (d_of_var (pv 1)) d_int (fun _ _ => rfl)) d_nil)) d_int) d_nil)) (d_cons d_int d_nil))) (d_cons (d_tup (d_cons d_int (d_cons (d_of_var (pv 3)) d_nil))) (d_cons (d_tup (d_cons (d_of_var (pv 3)) (d_cons d_int d_nil))) (d_cons (d_tup (d_cons (d_of_var (pv 3)) (d_cons (d_of_var (pv 3)) d_nil))) (d_cons (d_tup (d_cons (d_tup (d_cons d_int (d_cons d_int d_nil))) (d_cons d_int d_nil))) d_nil))))))))))))))
    (s_one (s_ret (d_view (d_bi ca_all (cr_all rfl) rfl T.b_all (by decide +kernel) (d_cons (d_known (d_lc (own := [("value", 5)]) rfl sc__law_forms_right.nd (i_seq (d_of_var (pv 4))) (blkOk_by (N := ["heap", "one", "times_by", "nought", "values", "value"]) (sc := defScope s__law_forms_right) (by decide +kernel)) (fun _ _ _ _ _ => (g_name (i := 5) sc__law_forms_right.nd rfl (by first | exact Or.inl rfl | exact Or.inr rfl))) (fun _ _ _ _ _ => d_yes) (fun _ _ _ _ _ => (d_call (c__law_same T 12) (hr.mono (by decide)) rfl (d_cons (d_call (c_is_fraction T) (hr.mono (by decide)) rfl (d_cons (d_of_var (pv 5)) d_nil)) (d_cons (d_call (c__law_is_frac T) (hr.mono (by decide)) rfl (d_cons (d_of_var (pv 5)) d_nil)) d_nil)))) (by decide))) d_nil))))))))))
theorem c__law_forms_right (T : Txt P w K mg base) : Fc P w K mg base 35 "_law_forms_right" φ__law_forms_right := by
  obtain ⟨f, fd, F, g⟩ := T.d__law_forms_right
  exact fc_of (ok__law_forms_right T F) g F.kp (F.bindsN fun _ _ _ _ _ _ us hl => match us, hl with | [_, _], _ => rfl)
theorem sc__law_rows_right : FnScope ["heap", "sign", "row", "due", "many", "k", "whole", "begin", "top", "bottom"] ["heap"] (defScope s__law_rows_right) := ⟨rfl, rfl, rfl, by decide +kernel, rfl, by decide +kernel, by decide +kernel⟩
noncomputable def m__law_rows_right : SM := (mSeq (mPar2 7 4 (mmE (mOp addD (mC (.int 1)) (mCall φ__law_draw (mCons (mVar 0) (mCons (mCall φ__law_pick (mCons (mVar 0) (mCons (mF (mLst (mCons (mC (.int 3)) (mCons (mC (.int 1000)) mNil)))) mNil))) mNil)))) (mmE (mCall φ__law_pick (mCons (mVar 0) (mCons (mF (mLst (mCons (mC (.int 0)) (mCons (mC (.int 1)) (mCons (mC (.int 2)) (mCons (mC (.int 40)) (mCons (mC (.int 399)) (mCons (mC (.int 400)) mNil)))))))) mNil))) mmNil)))
    (mSeq (mSet 1 (mCall φ__law_pick (mCons (mVar 0) (mCons (mF (mLst (mCons (mC (.int 1)) (mCons (mOp subD (mC (.int 0)) (mC (.int 1))) mNil)))) mNil))))
    (mSeq (mSetO 2 (mLc (mRg2 (mCons (mVar 7) (mCons (mOp addD (mVar 7) (mVar 4)) mNil))) [5] (gN 5) tYesD (mTup (mCons (mVar 1) (mCons (mOp mulD (mVar 5) (mOp addD (mVar 5) (mC (.int 1)))) mNil)))))
    (mSeq (mSet 3 (mCall φ__law_frac (mCons (mOp mulD (mVar 1) (mVar 4)) (mCons (mOp mulD (mVar 7) (mOp addD (mVar 7) (mVar 4))) mNil))))
    (mSeq (mFrz 2 (mIte (tmNot (mT (mCall (φ__law_same 12) (mCons (mCall φ_sum_of (mCons (mCall φ__law_turned (mCons (mVar 0) (mCons (mVar 2) mNil))) mNil)) (mCons (mVar 3) mNil)))))
    (mRet (mC (.bool false)))
    mNext))
    (mSeq (mAsg (mCall φ__law_pick (mCons (mVar 0) (mCons (mF (mLst (mCons (mTup (mCons (mC (.int 1)) (mCons (mC (.int 2)) mNil))) (mCons (mTup (mCons (mOp subD (mC (.int 0)) (mC (.int 1))) (mCons (mC (.int 3)) mNil))) (mCons (mTup (mCons (mC (.int 2)) (mCons (mC (.int 3)) mNil))) (mCons (mTup (mCons (mC (.int 3)) (mCons (mC (.int 7)) mNil))) (mCons (mTup (mCons (mOp subD (mC (.int 0)) (mC (.int 5))) (mCons (mC (.int 4)) mNil))) mNil))))))) mNil))) (gT 2 (gsCons (gN 8) (gsCons (gN 9) gsNil))))
    (mSeq (mSet 4 (mCall φ__law_draw (mCons (mVar 0) (mCons (mC (.int 60)) mNil))))
    (mSeq (mSetO 2 (mRepL (mF (mLst (mCons (mTup (mCons (mC (.int 1)) (mCons (mC (.int 1)) mNil))) mNil))) (mB intD (mCons (mOp gtD (mVar 4) (mC (.int 0))) mNil))))
    (mSeq (mFor (mRg2 (mCons (mC (.int 1)) (mCons (mVar 4) mNil))) (gN 5)
    (mApp 2 (mTup (mCons (mOp mulD (mOp ixD (mIxV 2 (mOp subD (mVar 5) (mC (.int 1)))) (mC (.int 0))) (mVar 8)) (mCons (mOp mulD (mOp ixD (mIxV 2 (mOp subD (mVar 5) (mC (.int 1)))) (mC (.int 1))) (mVar 9)) mNil)))))
    (mSeq (mSet 6 (mF (mLst (mCons (mC (.int 1)) (mCons (mC (.int 1)) mNil)))))
    (mSeq (mFor (mRg1 (mCons (mVar 4) mNil)) (gN 5)
    (mSet 6 (mF (mLst (mCons (mOp mulD (mOp ixD (mVar 6) (mC (.int 0))) (mVar 8)) (mCons (mOp mulD (mOp ixD (mVar 6) (mC (.int 1))) (mVar 9)) mNil))))))
    (mSeq (mSet 3 (mCall φ__law_frac (mCons (mOp mulD (mOp subD (mOp ixD (mVar 6) (mC (.int 1))) (mOp ixD (mVar 6) (mC (.int 0)))) (mVar 9)) (mCons (mOp mulD (mOp ixD (mVar 6) (mC (.int 1))) (mOp subD (mVar 9) (mVar 8))) mNil))))
    (mFrz 2 (mRet (mCall (φ__law_same 12) (mCons (mCall φ_sum_of (mCons (mCall φ__law_turned (mCons (mVar 0) (mCons (mVar 2) mNil))) mNil)) (mCons (mVar 3) mNil)))))))))))))))))
noncomputable def φ__law_rows_right : Fn := mFun 1 10 m__law_rows_right
theorem ok__law_rows_right (T : Txt P w K mg base) {f : Addr} {fd : FuncData} (F : FunD K "_law_rows_right" "_law_rows_right" (defArgs s__law_rows_right) (defBody s__law_rows_right) (defScope s__law_rows_right) [] [] f fd) : FnOk P w K mg base CX0 35 f fd ["heap"] (spD K φ__law_rows_right) :=
  fn_ok (N := ["heap", "sign", "row", "due", "many", "k", "whole", "begin", "top", "bottom"]) (k := 34) (m := m__law_rows_right) F sc__law_rows_right (by decide) fun h F0 H0 cdv A outer s H E hr =>
    (s_cons (s_par2 (i := 7) (j := 4) rfl sc__law_rows_right.nd rfl rfl (by decide) rfl rfl (mm_e (d_bin od_add op_addA d_int (d_call (c__law_draw T) (hr.mono (by decide)) rfl (d_cons (d_of_var (pv 0)) (d_cons (d_call (c__law_pick T) (hr.mono (by decide)) rfl (d_cons (d_of_var (pv 0)) (d_cons (d_known (d_lst (d_cons d_int (d_cons d_int d_nil)))) d_nil))) d_nil)))) (mm_e (d_call (c__law_pick T) (hr.mono (by decide)) rfl (d_cons (d_of_var (pv 0)) (d_cons (d_known (d_lst (d_cons d_int (d_cons d_int (d_cons d_int (d_cons d_int (d_cons d_int (d_cons d_int d_nil)))))))) d_nil))) mm_nil)) rfl)
    (s_cons (s_set (i := 1) sc__law_rows_right.nd rfl (by first | exact Or.inl rfl | exact Or.inr rfl) (d_call (c__law_pick T) (hr.mono (by decide)) rfl (d_cons (d_of_var (pv 0)) (d_cons (d_known (d_lst (d_cons d_int (d_cons (d_bin od_sub op_sub d_int d_int) d_nil)))) d_nil))))
    (s_cons (s_setLcO (i := 2) (own := [("k", 5)]) rfl sc__law_rows_right.nd rfl rfl (sw_true rfl rfl rfl (by decide +kernel)) (i_rg2 rfl T.b_range (d_cons (d_of_var (pv 7)) (d_cons (d_bin od_add op_addA (d_of_var (pv 7)) (d_of_var (pv 4))) d_nil))) (blkOk_by (N := ["heap", "sign", "row", "due", "many", "k", "whole", "begin", "top", "bottom"]) (sc := defScope s__law_rows_right) (by decide +kernel)) (fun _ _ _ _ _ => (g_name (i := 5) sc__law_rows_right.nd rfl (by first | exact Or.inl rfl | exact Or.inr rfl))) (fun _ _ _ _ _ => d_yes) (fun _ _ _ _ _ => (d_tup (d_cons (d_of_var (pv 1)) (d_cons (d_bin od_mul op_mulA (d_of_var (pv 5)) (d_bin od_add op_addA (d_of_var (pv 5)) d_int)) d_nil)))) (by decide))
    (s_cons (s_set (i := 3) sc__law_rows_right.nd rfl (by first | exact Or.inl rfl | exact Or.inr rfl) (d_call (c__law_frac T) (hr.mono (by decide)) rfl (d_cons (d_bin od_mul op_mulA (d_of_var (pv 1)) (d_of_var (pv 4))) (d_cons (d_bin od_mul op_mulA (d_of_var (pv 7)) (d_bin od_add op_addA (d_of_var (pv 7)) (d_of_var (pv 4)))) d_nil))))
    (s_cons (s_frz (i := 2) (s_if (d_not (d_tval (d_call (c__law_same T 12) (hr.mono (by decide)) rfl (d_cons (d_call (c_sum_of T) (hr.mono (by decide)) rfl (d_cons (d_call (c__law_turned T) (hr.mono (by decide)) rfl (d_cons (d_of_var (pv 0)) (d_cons (d_of_var (pv 2)) d_nil))) d_nil)) (d_cons (d_of_var (pv 3)) d_nil)))))
    (s_one (s_ret d_bl))
    s_nil))
    (s_cons (s_asg (d_call (c__law_pick T) (hr.mono (by decide)) rfl (d_cons (d_of_var (pv 0)) (d_cons (d_known (d_lst (d_cons (d_tup (d_cons d_int (d_cons d_int d_nil))) (d_cons (d_tup (d_cons (d_bin od_sub op_sub d_int d_int) (d_cons d_int d_nil))) (d_cons (d_tup (d_cons d_int (d_cons d_int d_nil))) (d_cons (d_tup (d_cons d_int (d_cons d_int d_nil))) (d_cons (d_tup (d_cons (d_bin od_sub op_sub d_int d_int) (d_cons d_int d_nil))) d_nil))))))) d_nil))) (g_tup rfl (g_cons (g_name (i := 8) sc__law_rows_right.nd rfl (by first | exact Or.inl rfl | exact Or.inr rfl)) (g_cons (g_name (i := 9) sc__law_rows_right.nd rfl (by first | exact Or.inl rfl | exact Or.inr rfl)) g_nil))))
    (s_cons (s_set (i := 4) sc__law_rows_right.nd rfl (by first | exact Or.inl rfl | exact Or.inr rfl) (d_call (c__law_draw T) (hr.mono (by decide)) rfl (d_cons (d_of_var (pv 0)) (d_cons d_int d_nil))))
    (s_cons (s_setO (i := 2) sc__law_rows_right.nd rfl (by first | exact Or.inl rfl | exact Or.inr rfl) (d_repL (d_known (d_lst (d_cons (d_tup (d_cons d_int (d_cons d_int d_nil))) d_nil))) (d_ty ca_int call_int1 rfl T.b_int (by decide +kernel) (d_cons (d_cmp od_gt op_gt (d_of_var (pv 4)) d_int) d_nil))))
    (s_cons (s_for PassesOwn.never rfl (i_rg2 rfl T.b_range (d_cons d_int (d_cons (d_of_var (pv 4)) d_nil))) (g_name (i := 5) sc__law_rows_right.nd rfl (by first | exact Or.inl rfl | exact Or.inr rfl))
    (s_one (s_app (pv 2) (x_of (d_tup (d_cons (d_bin od_mul op_mulA (d_ix (d_ixV (pv 2) (d_bin od_sub op_sub (d_of_var (pv 5)) d_int) (fun _ _ => rfl)) d_int (fun _ _ => rfl)) (d_of_var (pv 8))) (d_cons (d_bin od_mul op_mulA (d_ix (d_ixV (pv 2) (d_bin od_sub op_sub (d_of_var (pv 5)) d_int) (fun _ _ => rfl)) d_int (fun _ _ => rfl)) (d_of_var (pv 9))) d_nil)))))))
    (s_cons (s_set (i := 6) sc__law_rows_right.nd rfl (by first | exact Or.inl rfl | exact Or.inr rfl) (d_known (d_lst (d_cons d_int (d_cons d_int d_nil)))))
    (s_cons (s_for PassesOwn.never rfl (i_rg1 rfl T.b_range (d_cons (d_of_var (pv 4)) d_nil)) (g_name (i := 5) sc__law_rows_right.nd rfl (by first | exact Or.inl rfl | exact Or.inr rfl))
    (s_one (s_set (i := 6) sc__law_rows_right.nd rfl (by first | exact Or.inl rfl | exact Or.inr rfl) (d_known (d_lst (d_cons (d_bin od_mul op_mulA (d_ix (d_of_var (pv 6)) d_int (fun _ _ => rfl)) (d_of_var (pv 8))) (d_cons (d_bin od_mul op_mulA (d_ix (d_of_var (pv 6)) d_int (fun _ _ => rfl)) (d_of_var (pv 9))) d_nil)))))))
    (s_cons (s_set (i := 3) sc__law_rows_right.nd rfl (by first | exact Or.inl rfl | exact Or.inr rfl) (d_call (c__law_frac T) (hr.mono (by decide)) rfl (d_cons (d_bin od_mul op_mulA (d_bin od_sub op_sub (d_ix (d_of_var (pv 6)) d_int (fun _ _ => rfl)) (d_ix (d_of_var (pv 6)) d_int (fun _ _ => rfl))) (d_of_var (pv 9))) (d_cons (d_bin od_mul op_mulA (d_ix (d_of_var (pv 6)) d_int (fun _ _ => rfl)) (d_bin od_sub op_sub (d_of_var (pv 9)) (d_of_var (pv 8)))) d_nil))))
    (s_one (s_frz (i := 2) (s_ret (d_call (c__law_same T 12) (hr.mono (by decide)) rfl (d_cons (d_call (c_sum_of T) (hr.mono (by decide)) rfl (d_cons (d_call (c__law_turned T) (hr.mono (by decide)) rfl (d_cons (d_of_var (pv 0)) (d_cons (d_of_var (pv 2)) d_nil))) d_nil)) (d_cons (d_of_var (pv 3)) d_nil))))))))))))))))))
theorem c__law_rows_right (T : Txt P w K mg base) : Fc P w K mg base 35 "_law_rows_right" φ__law_rows_right := by
  obtain ⟨f, fd, F, g⟩ := T.d__law_rows_right
  exact fc_of (ok__law_rows_right T F) g F.kp (F.bindsN fun _ _ _ _ _ _ us hl => match us, hl with | [_], _ => rfl)
theorem sc__law_down_right : FnScope ["heap", "parts", "more", "one", "m", "k"] ["heap"] (defScope s__law_down_right) := ⟨rfl, rfl, rfl, by decide +kernel, rfl, by decide +kernel, by decide +kernel⟩
noncomputable def m__law_down_right : SM := (mSeq (mPar2 4 5 (mmE (mOp addD (mC (.int 1)) (mCall φ__law_draw (mCons (mVar 0) (mCons (mCall φ__law_pick (mCons (mVar 0) (mCons (mF (mLst (mCons (mC (.int 1)) (mCons (mC (.int 10)) (mCons (mOp powD (mC (.int 10)) (mC (.int 6))) (mCons (mOp powD (mC (.int 10)) (mC (.int 30))) mNil)))))) mNil))) mNil)))) (mmE (mOp subD (mCall φ__law_draw (mCons (mVar 0) (mCons (mOp mulD (mC (.int 2)) (mOp powD (mC (.int 10)) (mC (.int 20)))) mNil))) (mOp powD (mC (.int 10)) (mC (.int 20)))) mmNil)))
    (mSeq (mSet 1 (mOp addD (mC (.int 1)) (mCall φ__law_draw (mCons (mVar 0) (mCons (mCall φ__law_pick (mCons (mVar 0) (mCons (mF (mLst (mCons (mC (.int 1)) (mCons (mC (.int 9)) (mCons (mOp powD (mC (.int 10)) (mC (.int 30))) mNil))))) mNil))) mNil)))))
    (mSeq (mSet 2 (mCall φ__law_pick (mCons (mVar 0) (mCons (mF (mLst (mCons (mC (.int 0)) (mCons (mOp subD (mVar 1) (mC (.int 1))) (mCons (mCall φ__law_draw (mCons (mVar 0) (mCons (mVar 1) mNil))) mNil))))) mNil))))
    (mSeq (mSet 3 (mCall φ__law_frac (mCons (mOp addD (mOp mulD (mVar 5) (mVar 1)) (mVar 2)) (mCons (mOp mulD (mVar 4) (mVar 1)) mNil))))
    (mSeq (mIte (tmOr (tmNot (mT (mCall (φ__law_same 12) (mCons (mCall φ_down_to (mCons (mVar 3) (mCons (mVar 4) mNil))) (mCons (mCall φ__law_frac (mCons (mVar 5) (mCons (mVar 4) mNil))) mNil))))) (tmNot (mT (mCall (φ__law_same 12) (mCons (mCall φ_floor_of (mCons (mVar 3) mNil)) (mCons (mOp divD (mOp addD (mOp mulD (mVar 5) (mVar 1)) (mVar 2)) (mOp mulD (mVar 4) (mVar 1))) mNil))))))
    (mRet (mC (.bool false)))
    mNext)
    (mRet (mAnd (mCall (φ__law_same 12) (mCons (mCall φ_down_to (mCons (mVar 3) (mCons (mC (.int 1)) mNil))) (mCons (mTup (mCons (mOp divD (mOp addD (mOp mulD (mVar 5) (mVar 1)) (mVar 2)) (mOp mulD (mVar 4) (mVar 1))) (mCons (mC (.int 1)) mNil))) mNil))) (mCall (φ__law_same 12) (mCons (mCall φ_size_of (mCons (mVar 3) mNil)) (mCons (mTup (mCons (mB absD (mCons (mOp ixD (mVar 3) (mC (.int 0))) mNil)) (mCons (mOp ixD (mVar 3) (mC (.int 1))) mNil))) mNil))))))))))
noncomputable def φ__law_down_right : Fn := mFun 1 6 m__law_down_right
theorem ok__law_down_right (T : Txt P w K mg base) {f : Addr} {fd : FuncData} (F : FunD K "_law_down_right" "_law_down_right" (defArgs s__law_down_right) (defBody s__law_down_right) (defScope s__law_down_right) [] [] f fd) : FnOk P w K mg base CX0 35 f fd ["heap"] (spD K φ__law_down_right) :=
  fn_ok (N := ["heap", "parts", "more", "one", "m", "k"]) (k := 34) (m := m__law_down_right) F sc__law_down_right (by decide) fun h F0 H0 cdv A outer s H E hr =>
    (s_cons (s_par2 (i := 4) (j := 5) rfl sc__law_down_right.nd rfl rfl (by decide) rfl rfl (mm_e (d_bin od_add op_addA d_int (d_call (c__law_draw T) (hr.mono (by decide)) rfl (d_cons (d_of_var (pv 0)) (d_cons (d_call (c__law_pick T) (hr.mono (by decide)) rfl (d_cons (d_of_var (pv 0)) (d_cons (d_known (d_lst (d_cons d_int (d_cons d_int (d_cons (d_bin od_pow op_pow d_int d_int) (d_cons (d_bin od_pow op_pow d_int d_int) d_nil)))))) d_nil))) d_nil)))) (mm_e (d_bin od_sub op_sub (d_call (c__law_draw T) (hr.mono (by decide)) rfl (d_cons (d_of_var (pv 0)) (d_cons (d_bin od_mul op_mulA d_int (d_bin od_pow op_pow d_int d_int)) d_nil))) (d_bin od_pow op_pow d_int d_int)) mm_nil)) rfl)
    (s_cons (s_set (i := 1) sc__law_down_right.nd rfl (by first | exact Or.inl rfl | exact Or.inr rfl) (d_bin od_add op_addA d_int (d_call (c__law_draw T) (hr.mono (by decide)) rfl (d_cons (d_of_var (pv 0)) (d_cons (d_call (c__law_pick T) (hr.mono (by decide)) rfl (d_cons (d_of_var (pv 0)) (d_cons (d_known (d_lst (d_cons d_int (d_cons d_int (d_cons (d_bin od_pow op_pow d_int d_int) d_nil))))) d_nil))) d_nil)))))
    (s_cons (s_set (i := 2) sc__law_down_right.nd rfl (by first | exact Or.inl rfl | exact Or.inr rfl) (d_call (c__law_pick T) (hr.mono (by decide)) rfl (d_cons (d_of_var (pv 0)) (d_cons (d_known (d_lst (d_cons d_int (d_cons (d_bin od_sub op_sub (d_of_var (pv 1)) d_int) (d_cons (d_call (c__law_draw T) (hr.mono (by decide)) rfl (d_cons (d_of_var (pv 0)) (d_cons (d_of_var (pv 1)) d_nil))) d_nil))))) d_nil))))
    (s_cons (s_set (i := 3) sc__law_down_right.nd rfl (by first | exact Or.inl rfl | exact Or.inr rfl) (d_call (c__law_frac T) (hr.mono (by decide)) rfl (d_cons (d_bin od_add op_addA (d_bin od_mul op_mulA (d_of_var (pv 5)) (d_of_var (pv 1))) (d_of_var (pv 2))) (d_cons (d_bin od_mul op_mulA (d_of_var (pv 4)) (d_of_var (pv 1))) d_nil))))
    (s_cons (s_if (PW.pt (d_or (d_not (d_tval (d_call (c__law_same T 12) (hr.mono (by decide)) rfl (d_cons (d_call (c_down_to T) (hr.mono (by decide)) rfl (d_cons (d_of_var (pv 3)) (d_cons (d_of_var (pv 4)) d_nil))) (d_cons (d_call (c__law_frac T) (hr.mono (by decide)) rfl (d_cons (d_of_var (pv 5)) (d_cons (d_of_var (pv 4)) d_nil))) d_nil))))) (d_or1 (d_not (d_tval (d_call (c__law_same T 12) (hr.mono (by decide)) rfl (d_cons (d_call (c_floor_of T) (hr.mono (by decide)) rfl (d_cons (d_of_var (pv 3)) d_nil)) (d_cons (d_bin od_div op_fdivG (d_bin od_add op_addA (d_bin od_mul op_mulA (d_of_var (pv 5)) (d_of_var (pv 1))) (d_of_var (pv 2))) (d_bin od_mul op_mulA (d_of_var (pv 4)) (d_of_var (pv 1)))) d_nil))))))))
    (s_one (s_ret d_bl))
    s_nil)
    (s_one (s_ret (d_andV (d_call (c__law_same T 12) (hr.mono (by decide)) rfl (d_cons (d_call (c_down_to T) (hr.mono (by decide)) rfl (d_cons (d_of_var (pv 3)) (d_cons d_int d_nil))) (d_cons (d_tup (d_cons (d_bin od_div op_fdivG (d_bin od_add op_addA (d_bin od_mul op_mulA (d_of_var (pv 5)) (d_of_var (pv 1))) (d_of_var (pv 2))) (d_bin od_mul op_mulA (d_of_var (pv 4)) (d_of_var (pv 1)))) (d_cons d_int d_nil))) d_nil))) (d_one (d_call (c__law_same T 12) (hr.mono (by decide)) rfl (d_cons (d_call (c_size_of T) (hr.mono (by decide)) rfl (d_cons (d_of_var (pv 3)) d_nil)) (d_cons (d_tup (d_cons (d_bi ca_abs call_abs rfl T.b_abs (by decide +kernel) (d_cons (d_ix (d_of_var (pv 3)) d_int (fun _ _ => rfl)) d_nil)) (d_cons (d_ix (d_of_var (pv 3)) d_int (fun _ _ => rfl)) d_nil))) d_nil))))))))))))
theorem c__law_down_right (T : Txt P w K mg base) : Fc P w K mg base 35 "_law_down_right" φ__law_down_right := by
  obtain ⟨f, fd, F, g⟩ := T.d__law_down_right
  exact fc_of (ok__law_down_right T F) g F.kp (F.bindsN fun _ _ _ _ _ _ us hl => match us, hl with | [_], _ => rfl)
theorem kRIn_frac_1_bottom (T : Txt P w K mg base) : FrK P w K mg base 34 "frac" 1 ["bottom"] gIn ψ_frac := by
  obtain ⟨f, fd, F, g⟩ := T.d_frac
  exact ⟨f, fd, _, okR_frac T F, g, F.kp, kbn_of F gk_in fun _ _ _ _ _ _ us ws h1 h2 => match us, ws, h1, h2 with | [_], [_], _, _ => rfl⟩
theorem kRSw_over_0_other_one (T : Txt P w K mg base) : FrK P w K mg base 34 "over" 0 ["other", "one"] gSw ψ_over := by
  obtain ⟨f, fd, F, g⟩ := T.d_over
  exact ⟨f, fd, _, okR_over T F, g, F.kp, kbn_of F gk_sw fun _ _ _ _ _ _ us ws h1 h2 => match us, ws, h1, h2 with | [], [_, _], _, _ => rfl⟩
theorem sc__law_wrong_right : FnScope ["heap", "one", "value", "top", "bottom", "at", "e"] ["heap", "one"] (defScope s__law_wrong_right) := ⟨rfl, rfl, rfl, by decide +kernel, rfl, by decide +kernel, by decide +kernel⟩
noncomputable def m__law_wrong_right : SM := (mSeq (mFor (mItems (mTup (mCons (mC .none) (mCons (mC (.bool true)) (mCons (mC (.str "1")) (mCons (mTup (mCons (mC (.int 1)) (mCons (mC (.int 2)) mNil))) (mCons (mF (mLst (mCons (mC (.int 3)) mNil))) mNil))))))) (gN 2)
    (mFor (mItems (mTup (mCons (mTup (mCons (mVar 2) (mCons (mC (.int 3)) (mCons (mC (.int 0)) mNil)))) (mCons (mTup (mCons (mVar 2) (mCons (mC (.int 0)) (mCons (mC (.int 0)) mNil)))) (mCons (mTup (mCons (mC (.int 7)) (mCons (mVar 2) (mCons (mC (.int 1)) mNil)))) (mCons (mTup (mCons (mVar 2) (mCons (mVar 2) (mCons (mC (.int 0)) mNil)))) (mCons (mTup (mCons (mOp ixD (mVar 1) (mC (.int 0))) (mCons (mC (.int 0)) (mCons (mC (.int 1)) mNil)))) mNil))))))) (gT 3 (gsCons (gN 3) (gsCons (gN 4) (gsCons (gN 5) gsNil))))
    (mTryF 6 5 "InvalidFraction" φA__law_same (eCallK 1 1 gIn ψ_frac (mCons (mVar 3) mNil) (mCons (mVar 4) mNil)))))
    (mSeq (mIte (tmNot (mT (mRefused φA__law_same (eCall ψ_over (mCons (mVar 1) (mCons (mTup (mCons (mC (.int 0)) (mCons (mC (.int 1)) mNil))) mNil))) (mC (.str "zero")))))
    (mRet (mC (.bool false)))
    mNext)
    (mRet (mRefused φA__law_same (eCallK 0 2 gSw ψ_over mNil (mCons (mTup (mCons (mC (.int 0)) (mCons (mC (.int 1)) mNil))) (mCons (mTup (mCons (mC (.int 0)) (mCons (mC (.int 1)) mNil))) mNil))) (mC (.str "zero"))))))
noncomputable def φ__law_wrong_right : Fn := mFun 2 7 m__law_wrong_right
abbrev q__law_wrong_right : Str := (envOfC "_law_wrong_right" (defScope s__law_wrong_right) 0 0 .none).qual ++ "<lambda>"
theorem okT__law_wrong_right (T : Txt P w K mg base) {f c Pt : Addr} {fd : FuncData} {TT : List (Addr × Str)} (F : FunD K "_law_wrong_right" "_law_wrong_right" (defArgs s__law_wrong_right) (defBody s__law_wrong_right) (defScope s__law_wrong_right) [] [] f fd) (TB : LamX.TabB base mg c Pt) (hcd : fd.code = .ref c)
    (hmT : (Pt, q__law_wrong_right) ∈ TT) (hu : ∀ t ∈ TT, t.1 = Pt → t.2 = q__law_wrong_right) : FnOk P w K mg base CX0 37 f fd ["heap", "one"] (spDT K TT φ__law_wrong_right) := by
  obtain ⟨C, mC, xf, nA, hits⟩ := T.cR
  obtain ⟨g, fdg, Fg, gg⟩ := T.d__law_refused
  have RD : RefD P w K mg base 1 C φA__law_same := ⟨mC, xf, nA, hits, cA__law_same T⟩
  have scg : FnScope ["work", "due", "e"] ["work", "due"] (defScope s__law_refused) := ⟨rfl, rfl, rfl, by decide +kernel, rfl, by decide +kernel, by decide +kernel⟩
  have hbg : Binds K fdg ["work", "due"] [] := Fg.bindsN fun _ _ _ _ _ _ us hl => match us, hl with | [_, _], _ => rfl
  obtain ⟨DInvalidFraction, i1InvalidFraction, i2InvalidFraction, i3InvalidFraction, i4InvalidFraction, i5InvalidFraction, i6InvalidFraction, i7InvalidFraction⟩ := T.t_InvalidFraction
  have TInvalidFraction : TryD P w K mg base 1 "InvalidFraction" "ShrinksError" "Refused" DInvalidFraction φA__law_same := ⟨i1InvalidFraction, i2InvalidFraction, i3InvalidFraction, i4InvalidFraction, cA__law_same T, i5InvalidFraction, i6InvalidFraction, i7InvalidFraction, T.b_isinstance⟩
  exact fn_okT (N := ["heap", "one", "value", "top", "bottom", "at", "e"]) (k := 36) (m := m__law_wrong_right) F sc__law_wrong_right (by decide) fun cdv oc od dV kV doc pm an ct osl efd lk h F0 H0 A outer s H E hh md hr =>
    have hcode : cdv = .ref c := by rw [efd] at hcd; exact hcd
    (s_cons (s_for PassesOwn.never rfl (i_seq (d_tup (d_cons d_non (d_cons d_bl (d_cons d_str (d_cons (d_tup (d_cons d_int (d_cons d_int d_nil))) (d_cons (d_known (d_lst (d_cons d_int d_nil))) d_nil))))))) (g_name (i := 2) sc__law_wrong_right.nd rfl (by first | exact Or.inl rfl | exact Or.inr rfl))
    (s_one (s_for PassesOwn.never rfl (i_seq (d_tup (d_cons (d_tup (d_cons (d_of_var (pv 2)) (d_cons d_int (d_cons d_int d_nil)))) (d_cons (d_tup (d_cons (d_of_var (pv 2)) (d_cons d_int (d_cons d_int d_nil)))) (d_cons (d_tup (d_cons d_int (d_cons (d_of_var (pv 2)) (d_cons d_int d_nil)))) (d_cons (d_tup (d_cons (d_of_var (pv 2)) (d_cons (d_of_var (pv 2)) (d_cons d_int d_nil)))) (d_cons (d_tup (d_cons (d_ix (d_of_var (pv 1)) d_int (fun _ _ => rfl)) (d_cons d_int (d_cons d_int d_nil)))) d_nil))))))) (g_tup rfl (g_cons (g_name (i := 3) sc__law_wrong_right.nd rfl (by first | exact Or.inl rfl | exact Or.inr rfl)) (g_cons (g_name (i := 4) sc__law_wrong_right.nd rfl (by first | exact Or.inl rfl | exact Or.inr rfl)) (g_cons (g_name (i := 5) sc__law_wrong_right.nd rfl (by first | exact Or.inl rfl | exact Or.inr rfl)) g_nil))))
    (s_one (s_tryF (k := 1) (i := 6) (j := 5) TInvalidFraction rfl rfl sc__law_wrong_right.nd rfl rfl rfl (.inl rfl) (by decide) L2.takes0 (L2H.roomH_of (hr.mono (by decide))) rfl rfl rfl rfl rfl (by decide) (by decide) (by decide) (by decide) (by decide) (by decide) (by decide) (fun W pn xe tk => (r_callK (ks := ["bottom"]) tk (kRIn_frac_1_bottom T) gk_in (hr.mono (by decide)) rfl (d_cons (d_of_var (pv 3)) d_nil) (k_cons (d_of_var (pv 4)) k_nil))) rfl)))))
    (s_cons (s_if (d_not (d_tval (d_refused (k := 1) (j := 34) RD Fg scg hbg gg rfl (.inl rfl) (.inl rfl) rfl rfl rfl (hr.mono (by decide)) (by decide) hh hmT hu TB hcode (LamX.lamS_by (by rfl)) rfl (fun _ _ _ _ _ => rfl) (fun A outer s H E f c_ L0 hr0 => have hr := room_any hr0; (r_call takes_lam (cR_over T) (hr.mono (by decide)) rfl (d_cons (d_of_var (pv 1)) (d_cons (d_tup (d_cons d_int (d_cons d_int d_nil))) d_nil)))) d_str)))
    (s_one (s_ret d_bl))
    s_nil)
    (s_one (s_ret (d_refused (k := 1) (j := 34) RD Fg scg hbg gg rfl (.inl rfl) (.inl rfl) rfl rfl rfl (hr.mono (by decide)) (by decide) hh hmT hu TB hcode (LamX.lamS_by (by rfl)) rfl (fun _ _ _ _ _ => rfl) (fun A outer s H E f c_ L0 hr0 => have hr := room_any hr0; (r_callK0 (ks := ["other", "one"]) takes_lam (kRSw_over_0_other_one T) gk_sw (hr.mono (by decide)) rfl (k_cons (d_tup (d_cons d_int (d_cons d_int d_nil))) (k_cons (d_tup (d_cons d_int (d_cons d_int d_nil))) k_nil)))) d_str)))))
theorem sc_law : FnScope ["script", "heap", "turn", "row", "last"] ["script"] (defScope s_law) := ⟨rfl, rfl, rfl, by decide +kernel, rfl, by decide +kernel, by decide +kernel⟩
noncomputable def m_law : SM := (mSeq (mFor (mRg1 (mCons (mC (.int 3)) mNil)) (gN 2)
    (mSeq (mSet 3 (mCall φ__law_quotients (mCons (mVar 1) mNil)))
    (mSeq (mSet 4 (mOp ixD (mCall φ__law_neighbours (mCons (mVar 3) mNil)) (mOp subD (mB lenD (mCons (mVar 3) mNil)) (mC (.int 1)))))
    (mSeq (mIte (tmOr (tmNot (mT (mCall φ__law_neighbours_right (mCons (mVar 1) (mCons (mVar 3) mNil))))) (tmOr (tmNot (mT (mCall φ__law_forms_right (mCons (mVar 1) (mCons (mVar 4) mNil))))) (tmNot (mT (mCall φ__law_down_right (mCons (mVar 1) mNil))))))
    (mRet (mC (.bool false)))
    mNext)
    (mIte (tmOr (tmNot (mT (mCall φ__law_rows_right (mCons (mVar 1) mNil)))) (tmNot (mT (mCall φ__law_wrong_right (mCons (mVar 1) (mCons (mVar 4) mNil))))))
    (mRet (mC (.bool false)))
    mNext)))))
    (mRet (mC (.bool true))))
theorem rest_law (T : Txt P w K mg base) {TT : List (Addr × Str)} (W__law_wrong_right : FcT P w K mg base TT 37 "_law_wrong_right" φ__law_wrong_right) {h : Hd} (hh : ∃ a b, h = some (a, b, TT)) (F0 H0 : Hp) (cdv : Value) (f : Addr) (A : Around) (outer : List PySem.Env) (s : Shared) (H : Hp) (E : XK) (hr : Room 37 (A.deeper (envOfC "law" (defScope s_law) s.heap.objs.size f cdv))) :
    PSs (cxOf CX0 P w K mg base ["script", "heap", "turn", "row", "last"] "law" (defScope s_law) f cdv A outer s H E).nox ((defBody s_law).drop 1) (rdS K h F0 H0 mg (fun _ _ _ _ => False) m_law) :=
    (s_cons (s_for PassesOwn.never rfl (i_rg1 rfl T.b_range (d_cons d_int d_nil)) (g_name (i := 2) sc_law.nd rfl (by first | exact Or.inl rfl | exact Or.inr rfl))
    (s_cons (s_set (i := 3) sc_law.nd rfl (by first | exact Or.inl rfl | exact Or.inr rfl) (d_call (c__law_quotients T) (hr.mono (by decide)) rfl (d_cons (d_of_var (pv 1)) d_nil)))
    (s_cons (s_set (i := 4) sc_law.nd rfl (by first | exact Or.inl rfl | exact Or.inr rfl) (d_ix (d_call (c__law_neighbours T) (hr.mono (by decide)) rfl (d_cons (d_of_var (pv 3)) d_nil)) (d_bin od_sub op_sub (d_bi ca_len call_len rfl T.b_len (by decide +kernel) (d_cons (d_of_var (pv 3)) d_nil)) d_int) (fun _ _ => rfl)))
    (s_cons (s_if (PW.pt (d_or (d_not (d_tval (d_call (c__law_neighbours_right T) (hr.mono (by decide)) rfl (d_cons (d_of_var (pv 1)) (d_cons (d_of_var (pv 3)) d_nil))))) (d_or (d_not (d_tval (d_call (c__law_forms_right T) (hr.mono (by decide)) rfl (d_cons (d_of_var (pv 1)) (d_cons (d_of_var (pv 4)) d_nil))))) (d_or1 (d_not (d_tval (d_call (c__law_down_right T) (hr.mono (by decide)) rfl (d_cons (d_of_var (pv 1)) d_nil))))))))
    (s_one (s_ret d_bl))
    s_nil)
    (s_one (s_if (PW.pt (d_or (d_not (d_tval (d_call (c__law_rows_right T) (hr.mono (by decide)) rfl (d_cons (d_of_var (pv 1)) d_nil)))) (d_or1 (d_not (d_tval (d_callT W__law_wrong_right hh (hr.mono (by decide)) rfl (d_cons (d_of_var (pv 1)) (d_cons (d_of_var (pv 4)) d_nil))))))))
    (s_one (s_ret d_bl))
    s_nil))))))
    (s_one (s_ret d_bl)))
end
end DL
set_option Elab.async false
set_option linter.all false
set_option maxRecDepth 100000
set_option maxHeartbeats 1000000
namespace DL
open PySem
/-! the mathematics, part 1: gcd, lowest terms -/
theorem gcd_fmod (a b : Int) : Int.gcd b (a.fmod b) = Int.gcd a b := by
  rw [Int.fmod_def, Int.gcd_sub_mul_left_right, Int.gcd_comm]
theorem fmod_lt_abs (a b : Int) (h : b ≠ 0) : (a.fmod b).natAbs < b.natAbs := by
  rcases Int.lt_or_lt_of_ne h with hb | hb
  · have h1 : (-a).fmod (-b) = -(a.fmod b) := Int.neg_fmod_neg a b
    have h2 := Int.fmod_nonneg_of_pos (-a) (b := -b) (by omega)
    have h3 := Int.fmod_lt_of_pos (-a) (b := -b) (by omega)
    omega
  · have h1 := Int.fmod_nonneg_of_pos a hb
    have h2 := Int.fmod_lt_of_pos a hb
    omega
def nI (i : Int) : D := .int i
def fr (x : Rat) : D := .tuple [.int x.num, .int x.den]
theorem divisor_wh : ∀ (n : Nat) (a b : Int) (s : S), b.natAbs ≤ n → ∃ (m : Nat) (x : Int), Wh (mT (mOp neD (mVar 1) (mC (.int 0)))) (mPar2 0 1 (mmE (mVar 1) (mmE (mOp modD (mVar 0) (mVar 1)) mmNil))) m [.im (.int a), .im (.int b)] s (.nx [.im (.int x), .im (.int 0)] s) ∧ x.natAbs = Int.gcd a b := by
  intro n
  induction n with
  | zero =>
    intro a b s h
    have hb : b = 0 := by omega
    subst hb
    exact ⟨0, a, .stop (by simp [mT, mOp, mVar, mC, neD, okEq, plain, SeqAt.shaped, PyData.canLay0, PyData.depth, PyData.eqv]), by simp⟩
  | succ n ih =>
    intro a b s h
    by_cases hb : b = 0
    · subst hb
      exact ⟨0, a, .stop (by simp [mT, mOp, mVar, mC, neD, okEq, plain, SeqAt.shaped, PyData.canLay0, PyData.depth, PyData.eqv]), by simp⟩
    · obtain ⟨m, x, w, e⟩ := ih b (a.fmod b) s (by have := fmod_lt_abs a b hb; omega)
      refine ⟨m + 1, x, .nx (s1 := s) (s2 := s) ?_ ?_ w, by rw [e, gcd_fmod]⟩
      · simp [mT, mOp, mVar, mC, neD, okEq, plain, SeqAt.shaped, PyData.canLay0, PyData.depth, PyData.eqv, hb]
      · simp [mPar2, mmE, mmNil, mOp, mVar, modD, iiD, hb]
theorem sp_divisor_of (a b : Int) (s : S) : φ_divisor_of [.int a, .int b] s = some (.int (Int.gcd a b), s) := by
  obtain ⟨m, x, w, e⟩ := divisor_wh b.natAbs a b s (Nat.le_refl _)
  unfold φ_divisor_of mFun m_divisor_of
  have h := mWhile_of w
  simp [mSeq, h, mRet, mB, absD, mCons, mVar, mNil]
  omega
theorem fdiv_neg_r (a g : Int) : a.fdiv (-g) = (-a).fdiv g := by
  rw [← Int.neg_fdiv_neg (-a) g, Int.neg_neg]
theorem low_num (t b : Int) (hb : b ≠ 0) : t.fdiv (if b < 0 then -(Int.gcd t b : Int) else (Int.gcd t b : Int)) = (Rat.divInt t b).num := by
  rw [Rat.num_divInt, Int.gcd_comm b t]
  split
  · rename_i h
    rw [fdiv_neg_r, Int.fdiv_eq_ediv_of_nonneg _ (Int.natCast_nonneg _), Int.sign_eq_neg_one_of_neg h, Int.neg_one_mul]
  · rename_i h
    rw [Int.fdiv_eq_ediv_of_nonneg _ (Int.natCast_nonneg _), Int.sign_eq_one_of_pos (by omega), Int.one_mul]
theorem low_den (t b : Int) (hb : b ≠ 0) : b.fdiv (if b < 0 then -(Int.gcd t b : Int) else (Int.gcd t b : Int)) = ((Rat.divInt t b).den : Int) := by
  rw [Rat.den_divInt, if_neg hb, Int.gcd_comm b t]
  split
  · rename_i h
    rw [fdiv_neg_r, Int.fdiv_eq_ediv_of_nonneg _ (Int.natCast_nonneg _), Int.natCast_ediv, show (b.natAbs : Int) = -b by omega]
  · rename_i h
    rw [Int.fdiv_eq_ediv_of_nonneg _ (Int.natCast_nonneg _), Int.natCast_ediv, show (b.natAbs : Int) = b by omega]
theorem sp_lowest (t b : Int) (s : S) (hb : b ≠ 0) : φ_lowest [.int t, .int b] s = some (fr (Rat.divInt t b), s) := by
  have hg : (Int.gcd t b : Int) ≠ 0 := by
    intro h
    have := Int.gcd_eq_zero_iff.mp (by exact_mod_cast h)
    exact hb this.2
  have e1 := low_num t b hb
  have e2 := low_den t b hb
  unfold φ_lowest mFun m_lowest
  by_cases h : b < 0
  · rw [if_pos h] at e1 e2
    simp [mSeq, mSet, mCall, mCons, mVar, mNil, sp_divisor_of, mIte, mT, mOp, mC, ltD, ii0, iiD, h, mUn, negD, mRet, mTup, divP, hb, fr, mNext, e1, e2]
  · rw [if_neg h] at e1 e2
    simp [mSeq, mSet, mCall, mCons, mVar, mNil, sp_divisor_of, mIte, mT, mOp, mC, ltD, ii0, iiD, h, mUn, negD, mRet, mTup, divP, hb, fr, mNext, e1, e2]
end DL
set_option Elab.async false
set_option linter.all false
set_option maxRecDepth 100000
set_option maxHeartbeats 1000000
namespace DL
open PySem
/-! the mathematics, part 2: the fractions' operations -/
def Sz (n : Nat) (x : Rat) : Prop := x.num.natAbs < 2 ^ n ∧ x.den < 2 ^ n
theorem log2_lt {k n : Nat} (h : k < 2 ^ n) (hn : 0 < n) : k.log2 < n := by
  by_cases h0 : k = 0
  · subst h0
    simpa [Nat.log2_zero] using hn
  · exact (Nat.log2_lt h0).mpr h
theorem mulOk_of {i j : Int} {a b : Nat} (hi : i.natAbs < 2 ^ a) (hj : j.natAbs < 2 ^ b) (ha : 0 < a) (hb : 0 < b) (h : a + b ≤ 1000001) : mulOk i j = true := by
  have h1 := log2_lt hi ha
  have h2 := log2_lt hj hb
  unfold mulOk
  exact decide_eq_true (by omega)
theorem Sz.mul {a b : Nat} {x y : Rat} (hx : Sz a x) (hy : Sz b y) (ha : 0 < a) (hb : 0 < b) (h : a + b ≤ 1000001) : mulOk x.num y.den = true ∧ mulOk y.num x.den = true ∧ mulOk x.den y.den = true ∧ mulOk x.num y.num = true :=
  ⟨mulOk_of hx.1 (by simpa using hy.2) ha hb h, mulOk_of hy.1 (by simpa using hx.2) hb ha (by omega), mulOk_of (by simpa using hx.2) (by simpa using hy.2) ha hb h, mulOk_of hx.1 hy.1 ha hb h⟩
theorem den_ne (x : Rat) : (x.den : Int) ≠ 0 := by
  have := x.den_nz
  omega
theorem add_eq (x y : Rat) : Rat.divInt (x.num * y.den + y.num * x.den) (x.den * y.den) = x + y := by
  rw [← Rat.divInt_add_divInt _ _ (den_ne x) (den_ne y), Rat.num_divInt_den, Rat.num_divInt_den]
theorem add_eq_same (x y : Rat) (h : x.den = y.den) : Rat.divInt (x.num + y.num) x.den = x + y := by
  have q := add_eq x y
  rw [← q, ← h, ← Int.add_mul]
  exact (Rat.divInt_mul_right (den_ne x)).symm
theorem mul_eq (x y : Rat) : Rat.divInt (x.num * y.num) (x.den * y.den) = x * y := by
  rw [← Rat.divInt_mul_divInt, Rat.num_divInt_den, Rat.num_divInt_den]
theorem div_eq (x y : Rat) : Rat.divInt (x.num * y.den) (x.den * y.num) = x / y := by
  rw [← Rat.divInt_mul_divInt, Rat.num_divInt_den, Rat.div_def, Rat.inv_def]
theorem ev_eqI (i j : Int) : eqD (.int i) (.int j) = some (.bool (decide (i = j))) := by
  simp [eqD, okEq, plain, SeqAt.shaped, PyData.canLay0, PyData.depth, PyData.eqv]
  exact (Bool.beq_eq_decide_eq i j)
theorem ev_neI (i j : Int) : neD (.int i) (.int j) = some (.bool (!decide (i = j))) := by
  simp [neD, okEq, plain, SeqAt.shaped, PyData.canLay0, PyData.depth, PyData.eqv]
  rw [Bool.beq_eq_decide_eq i j]
theorem ev_fr0 (x : Rat) : ixD (fr x) (.int 0) = some (.int x.num) := by simp [fr, ixD, L2.atI, L2.ixN]
theorem ev_fr1 (x : Rat) : ixD (fr x) (.int 1) = some (.int x.den) := by simp [fr, ixD, L2.atI, L2.ixN]
theorem ev_add (i j : Int) : addD (.int i) (.int j) = some (.int (i + j)) := by simp [addD]
theorem ev_sub (i j : Int) : subD (.int i) (.int j) = some (.int (i - j)) := by simp [ii0]
theorem ev_gt (i j : Int) : gtD (.int i) (.int j) = some (.bool (decide (j < i))) := by simp [ii0]
theorem ev_lt (i j : Int) : ltD (.int i) (.int j) = some (.bool (decide (i < j))) := by simp [ii0]
theorem ev_mul {i j : Int} (h : mulOk i j = true) : mulD (.int i) (.int j) = some (.int (i * j)) := by simp [mulD, h]
theorem sp_added {a b : Nat} (x y : Rat) (s : S) (hx : Sz a x) (hy : Sz b y) (ha : 0 < a) (hb : 0 < b) (h : a + b ≤ 1000001) : φ_added [fr x, fr y] s = some (fr (x + y), s) := by
  obtain ⟨m1, m2, m3, m4⟩ := hx.mul hy ha hb h
  have dx := den_ne x
  have dy := den_ne y
  have dz : (x.den : Int) * y.den ≠ 0 := Int.mul_ne_zero dx dy
  unfold φ_added m_added
  by_cases he : x.den = y.den
  · have e1 := add_eq_same x y he
    simp [mFun, mSeq, mSet, mIte, mT, mOp, mVar, mC, mRet, mCall, mCons, mNil, mNext, mUn, mTup, mB, mAnd, mOr, mNot, tmAnd, tmOr, tmNot, mIf, negD, ev_eqI, ev_neI, ev_fr0, ev_fr1, ev_add, ev_sub, ev_gt, ev_lt, he, sp_lowest _ _ _ dx]
    rw [← he, sp_lowest _ _ _ dx, e1]
    rfl
  · have e1 := add_eq x y
    have he' : ¬ (x.den : Int) = y.den := by omega
    simp [mFun, mSeq, mSet, mIte, mT, mOp, mVar, mC, mRet, mCall, mCons, mNil, mNext, mUn, mTup, mB, mAnd, mOr, mNot, tmAnd, tmOr, tmNot, mIf, negD, ev_eqI, ev_neI, ev_fr0, ev_fr1, ev_add, ev_sub, ev_gt, ev_lt, he', ev_mul m1, ev_mul m2, ev_mul m3, sp_lowest _ _ _ dz, e1]
theorem sp_less {a b : Nat} (x y : Rat) (s : S) (hx : Sz a x) (hy : Sz b y) (ha : 0 < a) (hb : 0 < b) (h : a + b ≤ 1000001) : φ_less [fr x, fr y] s = some (fr (x - y), s) := by
  have hy' : Sz b (-y) := ⟨by rw [Rat.neg_num, Int.natAbs_neg]; exact hy.1, hy.2⟩
  have q := sp_added x (-y) s hx hy' ha hb h
  have e : PyData.tuple [PyData.int (-y.num), PyData.int y.den] = fr (-y) := rfl
  unfold φ_less m_less
  simp [mFun, mSeq, mSet, mIte, mT, mOp, mVar, mC, mRet, mCall, mCons, mNil, mNext, mUn, mTup, mB, mAnd, mOr, mNot, tmAnd, tmOr, tmNot, mIf, negD, ev_eqI, ev_neI, ev_fr0, ev_fr1, ev_add, ev_sub, ev_gt, ev_lt, e, q, Rat.sub_eq_add_neg]
theorem sp_times {a b : Nat} (x y : Rat) (s : S) (hx : Sz a x) (hy : Sz b y) (ha : 0 < a) (hb : 0 < b) (h : a + b ≤ 1000001) : φ_times [fr x, fr y] s = some (fr (x * y), s) := by
  obtain ⟨m1, m2, m3, m4⟩ := hx.mul hy ha hb h
  have dz : (x.den : Int) * y.den ≠ 0 := Int.mul_ne_zero (den_ne x) (den_ne y)
  unfold φ_times m_times
  simp [mFun, mSeq, mSet, mIte, mT, mOp, mVar, mC, mRet, mCall, mCons, mNil, mNext, mUn, mTup, mB, mAnd, mOr, mNot, tmAnd, tmOr, tmNot, mIf, negD, ev_eqI, ev_neI, ev_fr0, ev_fr1, ev_add, ev_sub, ev_gt, ev_lt, ev_mul m4, ev_mul m3, sp_lowest _ _ _ dz, mul_eq x y]
theorem sp_over {a b : Nat} (x y : Rat) (s : S) (hx : Sz a x) (hy : Sz b y) (ha : 0 < a) (hb : 0 < b) (h : a + b ≤ 1000001) (h0 : y ≠ 0) : φ_over [fr x, fr y] s = some (fr (x / y), s) := by
  obtain ⟨m1, m2, m3, m4⟩ := hx.mul hy ha hb h
  have hn : y.num ≠ 0 := fun z => h0 (Rat.num_eq_zero.mp z)
  have m5 : mulOk x.den y.num = true := mulOk_of (by simpa using hx.2) hy.1 ha hb h
  have dz : (x.den : Int) * y.num ≠ 0 := Int.mul_ne_zero (den_ne x) hn
  unfold φ_over m_over
  simp [mFun, mSeq, mSet, mIte, mT, mOp, mVar, mC, mRet, mCall, mCons, mNil, mNext, mUn, mTup, mB, mAnd, mOr, mNot, tmAnd, tmOr, tmNot, mIf, negD, ev_eqI, ev_neI, ev_fr0, ev_fr1, ev_add, ev_sub, ev_gt, ev_lt, hn, ev_mul m1, ev_mul m5, sp_lowest _ _ _ dz, div_eq x y]
def sgn (z : Int) : Int := if z = 0 then 0 else if 0 < z then 1 else -1
theorem sp_compared {a b : Nat} (x y : Rat) (s : S) (hx : Sz a x) (hy : Sz b y) (ha : 0 < a) (hb : 0 < b) (h : a + b ≤ 1000001) : φ_compared [fr x, fr y] s = some (.int (sgn (x.num * y.den - y.num * x.den)), s) := by
  obtain ⟨m1, m2, m3, m4⟩ := hx.mul hy ha hb h
  unfold φ_compared m_compared
  by_cases h0 : x.num * y.den - y.num * x.den = 0
  · simp [mFun, mSeq, mSet, mIte, mT, mOp, mVar, mC, mRet, mCall, mCons, mNil, mNext, mUn, mTup, mB, mAnd, mOr, mNot, tmAnd, tmOr, tmNot, mIf, negD, ev_eqI, ev_neI, ev_fr0, ev_fr1, ev_add, ev_sub, ev_gt, ev_lt, ev_mul m1, ev_mul m2, h0, sgn]
  · by_cases h1 : 0 < x.num * y.den - y.num * x.den
    · have h2 : y.num * x.den < x.num * y.den := by omega
      simp [mFun, mSeq, mSet, mIte, mT, mOp, mVar, mC, mRet, mCall, mCons, mNil, mNext, mUn, mTup, mB, mAnd, mOr, mNot, tmAnd, tmOr, tmNot, mIf, negD, ev_eqI, ev_neI, ev_fr0, ev_fr1, ev_add, ev_sub, ev_gt, ev_lt, ev_mul m1, ev_mul m2, h0, h1, h2, sgn]
    · have h2 : ¬ y.num * x.den < x.num * y.den := by omega
      simp [mFun, mSeq, mSet, mIte, mT, mOp, mVar, mC, mRet, mCall, mCons, mNil, mNext, mUn, mTup, mB, mAnd, mOr, mNot, tmAnd, tmOr, tmNot, mIf, negD, ev_eqI, ev_neI, ev_fr0, ev_fr1, ev_add, ev_sub, ev_gt, ev_lt, ev_mul m1, ev_mul m2, h0, h1, h2, sgn]
end DL
set_option Elab.async false
set_option linter.all false
set_option maxRecDepth 100000
set_option maxHeartbeats 1000000
namespace DL
open PySem
/-! the mathematics, part 3: kinds, sameness, floors -/
theorem kb1 : L2.kitB "int" "int" = some true := by decide +kernel
theorem kb2 : L2.kitB "int" "bool" = some false := by decide +kernel
theorem kb3 : L2.kitB "int" "tuple" = some false := by decide +kernel
theorem kb4 : L2.kitB "int" "str" = some false := by decide +kernel
theorem kb5 : L2.kitB "bool" "int" = some true := by decide +kernel
theorem kb6 : L2.kitB "bool" "bool" = some true := by decide +kernel
theorem kb7 : L2.kitB "bool" "tuple" = some false := by decide +kernel
theorem kb8 : L2.kitB "bool" "str" = some false := by decide +kernel
theorem kb9 : L2.kitB "tuple" "tuple" = some true := by decide +kernel
theorem kb10 : L2.kitB "tuple" "int" = some false := by decide +kernel
theorem kb11 : L2.kitB "tuple" "str" = some false := by decide +kernel
theorem kb12 : L2.kitB "tuple" "bool" = some false := by decide +kernel
theorem kb13 : L2.kitB "str" "str" = some true := by decide +kernel
theorem kb14 : L2.kitB "str" "tuple" = some false := by decide +kernel
theorem kb15 : L2.kitB "str" "int" = some false := by decide +kernel
theorem kb16 : L2.kitB "str" "bool" = some false := by decide +kernel
theorem kb17 : L2.kitB "list" "tuple" = some false := by decide +kernel
theorem kb18 : L2.kitB "list" "int" = some false := by decide +kernel
theorem kb19 : L2.kitB "NoneType" "tuple" = some false := by decide +kernel
theorem kb20 : L2.kitB "NoneType" "int" = some false := by decide +kernel
theorem ev_eqB (i j : Bool) : eqD (.bool i) (.bool j) = some (.bool (i == j)) := by
  simp [eqD, okEq, plain, SeqAt.shaped, PyData.canLay0, PyData.depth, PyData.eqv]
theorem sp_same_int (k : Nat) (i j : Int) (s : S) : φ__law_same (k + 1) [.int i, .int j] s = some (.bool (decide (i = j)), s) := by
  unfold φ__law_same m__law_same
  simp [mFun, mSeq, mSet, mIte, mT, mOp, mVar, mC, mRet, mCall, mCons, mNil, mNext, mUn, mTup, mB, mAnd, mOr, mNot, tmAnd, tmOr, tmNot, mIf, negD, ev_eqI, ev_neI, ev_fr0, ev_fr1, ev_add, ev_sub, ev_gt, ev_lt, mIsi, tyN, kb1, kb2, kb3, kb4, isD, isNone, ev_eqB]
theorem sp_same_bool (k : Nat) (i j : Bool) (s : S) : φ__law_same (k + 1) [.bool i, .bool j] s = some (.bool (i == j), s) := by
  unfold φ__law_same m__law_same
  simp [mFun, mSeq, mSet, mIte, mT, mOp, mVar, mC, mRet, mCall, mCons, mNil, mNext, mUn, mTup, mB, mAnd, mOr, mNot, tmAnd, tmOr, tmNot, mIf, negD, ev_eqI, ev_neI, ev_fr0, ev_fr1, ev_add, ev_sub, ev_gt, ev_lt, mIsi, tyN, kb5, kb6, kb7, kb8, isD, isNone, ev_eqB]
theorem sp_same_pair (k : Nat) (a b c d : Int) (s : S) : φ__law_same (k + 2) [.tuple [.int a, .int b], .tuple [.int c, .int d]] s = some (.bool (decide (a = c) && decide (b = d)), s) := by
  rw [φ__law_same]
  unfold m__law_same
  simp [mFun, mSeq, mSet, mIte, mT, mOp, mVar, mC, mRet, mCall, mCons, mNil, mNext, mUn, mTup, mB, mAnd, mOr, mNot, tmAnd, tmOr, tmNot, mIf, negD, ev_eqI, ev_neI, ev_fr0, ev_fr1, ev_add, ev_sub, ev_gt, ev_lt, mIsi, tyN, kb9, lenD, mLc, mRg1, rgOk, rgD, wipeE, lcL, gN, tYesD, ixD, L2.atI, L2.ixN, sp_same_int, allD, blsOf, mF, List.range_succ]
end DL
set_option Elab.async false
set_option linter.all false
set_option maxRecDepth 100000
set_option maxHeartbeats 1000000
namespace DL
open PySem
/-! the mathematics, part 4: floors, sizes, whole numbers -/
theorem divOk_of {i j : Int} (h0 : j ≠ 0) (h : j.natAbs < 2 ^ 9000) : divOk i j = true := by
  unfold divOk
  have q : Builtin.divisionGoesByPylong i j = false := PyProof.noPylong_of_log2 (log2_lt h (by decide))
  rw [q]
  simp [h0]
theorem ev_div {i j : Int} (h0 : j ≠ 0) (h : j.natAbs < 2 ^ 9000) : divD (.int i) (.int j) = some (.int (i.fdiv j)) := by
  simp [iiD, divOk_of h0 h]
theorem sp_floor_of (x : Rat) (s : S) (hx : x.den < 2 ^ 9000) : φ_floor_of [fr x] s = some (.int x.floor, s) := by
  unfold φ_floor_of m_floor_of
  simp [mFun, mSeq, mSet, mIte, mT, mOp, mVar, mC, mRet, mCall, mCons, mNil, mNext, mUn, mTup, mB, mAnd, mOr, mNot, tmAnd, tmOr, tmNot, mIf, negD, ev_eqI, ev_neI, ev_fr0, ev_fr1, ev_add, ev_sub, ev_gt, ev_lt, ev_div (den_ne x) (by simpa using hx), Int.fdiv_eq_ediv_of_nonneg, Rat.floor_def]
theorem sp_size_of (x : Rat) (s : S) : φ_size_of [fr x] s = some (.tuple [.int (x.num.natAbs : Int), .int x.den], s) := by
  unfold φ_size_of m_size_of
  simp [mFun, mSeq, mSet, mIte, mT, mOp, mVar, mC, mRet, mCall, mCons, mNil, mNext, mUn, mTup, mB, mAnd, mOr, mNot, tmAnd, tmOr, tmNot, mIf, negD, ev_eqI, ev_neI, ev_fr0, ev_fr1, ev_add, ev_sub, ev_gt, ev_lt, absD]
  omega
theorem sp_is_int (i : Int) (s : S) : φ_is_integer [.int i] s = some (.bool true, s) := by
  unfold φ_is_integer m_is_integer
  simp [mFun, mSeq, mSet, mIte, mT, mOp, mVar, mC, mRet, mCall, mCons, mNil, mNext, mUn, mTup, mB, mAnd, mOr, mNot, tmAnd, tmOr, tmNot, mIf, negD, ev_eqI, ev_neI, ev_fr0, ev_fr1, ev_add, ev_sub, ev_gt, ev_lt, mIsi, tyN, kb1, kb2]
theorem sp_is_bool (b : Bool) (s : S) : φ_is_integer [.bool b] s = some (.bool false, s) := by
  unfold φ_is_integer m_is_integer
  simp [mFun, mSeq, mSet, mIte, mT, mOp, mVar, mC, mRet, mCall, mCons, mNil, mNext, mUn, mTup, mB, mAnd, mOr, mNot, tmAnd, tmOr, tmNot, mIf, negD, ev_eqI, ev_neI, ev_fr0, ev_fr1, ev_add, ev_sub, ev_gt, ev_lt, mIsi, tyN, kb5, kb6]
theorem sp_is_none (s : S) : φ_is_integer [.none] s = some (.bool false, s) := by
  unfold φ_is_integer m_is_integer
  simp [mFun, mSeq, mSet, mIte, mT, mOp, mVar, mC, mRet, mCall, mCons, mNil, mNext, mUn, mTup, mB, mAnd, mOr, mNot, tmAnd, tmOr, tmNot, mIf, negD, ev_eqI, ev_neI, ev_fr0, ev_fr1, ev_add, ev_sub, ev_gt, ev_lt, mIsi, tyN, kb20]
theorem sp_is_str (x : Str) (s : S) : φ_is_integer [.str x] s = some (.bool false, s) := by
  unfold φ_is_integer m_is_integer
  simp [mFun, mSeq, mSet, mIte, mT, mOp, mVar, mC, mRet, mCall, mCons, mNil, mNext, mUn, mTup, mB, mAnd, mOr, mNot, tmAnd, tmOr, tmNot, mIf, negD, ev_eqI, ev_neI, ev_fr0, ev_fr1, ev_add, ev_sub, ev_gt, ev_lt, mIsi, tyN, kb15]
theorem sp_is_tup (x : List D) (s : S) : φ_is_integer [.tuple x] s = some (.bool false, s) := by
  unfold φ_is_integer m_is_integer
  simp [mFun, mSeq, mSet, mIte, mT, mOp, mVar, mC, mRet, mCall, mCons, mNil, mNext, mUn, mTup, mB, mAnd, mOr, mNot, tmAnd, tmOr, tmNot, mIf, negD, ev_eqI, ev_neI, ev_fr0, ev_fr1, ev_add, ev_sub, ev_gt, ev_lt, mIsi, tyN, kb10]
theorem sp_is_lst (x : List D) (s : S) : φ_is_integer [.list x] s = some (.bool false, s) := by
  unfold φ_is_integer m_is_integer
  simp [mFun, mSeq, mSet, mIte, mT, mOp, mVar, mC, mRet, mCall, mCons, mNil, mNext, mUn, mTup, mB, mAnd, mOr, mNot, tmAnd, tmOr, tmNot, mIf, negD, ev_eqI, ev_neI, ev_fr0, ev_fr1, ev_add, ev_sub, ev_gt, ev_lt, mIsi, tyN, kb18]
theorem sp_frac (t b : Int) (s : S) (hb : b ≠ 0) : φ_frac [.int t, .int b] s = some (fr (Rat.divInt t b), s) := by
  unfold φ_frac m_frac
  simp [mFun, mSeq, mSet, mIte, mT, mOp, mVar, mC, mRet, mCall, mCons, mNil, mNext, mUn, mTup, mB, mAnd, mOr, mNot, tmAnd, tmOr, tmNot, mIf, negD, ev_eqI, ev_neI, ev_fr0, ev_fr1, ev_add, ev_sub, ev_gt, ev_lt, sp_is_int, sp_lowest t b s hb, hb]
theorem sp_down_to {a b : Nat} (x : Rat) (m : Int) (s : S) (hx : Sz a x) (hm : m.natAbs < 2 ^ b) (ha : 0 < a) (hb : 0 < b) (h : a + b ≤ 1000001) (h9 : x.den < 2 ^ 9000) (hm0 : m ≠ 0) :
    φ_down_to [fr x, .int m] s = some (fr (Rat.divInt (x.num * m / x.den) m), s) := by
  unfold φ_down_to m_down_to
  simp [mFun, mSeq, mSet, mIte, mT, mOp, mVar, mC, mRet, mCall, mCons, mNil, mNext, mUn, mTup, mB, mAnd, mOr, mNot, tmAnd, tmOr, tmNot, mIf, negD, ev_eqI, ev_neI, ev_fr0, ev_fr1, ev_add, ev_sub, ev_gt, ev_lt, ev_mul (mulOk_of hx.1 hm ha hb h), ev_div (den_ne x) (by simpa using h9), sp_lowest _ _ s hm0, Int.fdiv_eq_ediv_of_nonneg]
/-! the law's own gcd -/
theorem law_gcd_wh : ∀ (n : Nat) (a b : Int) (s : S), 0 ≤ a → 0 ≤ b → b.natAbs ≤ n → ∃ (m : Nat), Wh (mT (mOp neD (mVar 1) (mC (.int 0)))) (mPar2 0 1 (mmE (mVar 1) (mmE (mOp modD (mB intD (mCons (mVar 0) mNil)) (mVar 1)) mmNil))) m [.im (.int a), .im (.int b)] s (.nx [.im (.int (Int.gcd a b)), .im (.int 0)] s) := by
  intro n
  induction n with
  | zero =>
    intro a b s ha hb h
    have hb : b = 0 := by omega
    subst hb
    exact ⟨0, by
      have e : ((Int.gcd a 0 : Nat) : Int) = a := by rw [Int.gcd_zero_right]; omega
      rw [e]
      exact .stop (by simp [mFun, mSeq, mSet, mIte, mT, mOp, mVar, mC, mRet, mCall, mCons, mNil, mNext, mUn, mTup, mB, mAnd, mOr, mNot, tmAnd, tmOr, tmNot, mIf, negD, ev_eqI, ev_neI, ev_fr0, ev_fr1, ev_add, ev_sub, ev_gt, ev_lt])⟩
  | succ n ih =>
    intro a b s ha hb h
    by_cases h0 : b = 0
    · subst h0
      exact ⟨0, by
        have e : ((Int.gcd a 0 : Nat) : Int) = a := by rw [Int.gcd_zero_right]; omega
        rw [e]
        exact .stop (by simp [mFun, mSeq, mSet, mIte, mT, mOp, mVar, mC, mRet, mCall, mCons, mNil, mNext, mUn, mTup, mB, mAnd, mOr, mNot, tmAnd, tmOr, tmNot, mIf, negD, ev_eqI, ev_neI, ev_fr0, ev_fr1, ev_add, ev_sub, ev_gt, ev_lt])⟩
    · have hp : 0 < b := by omega
      have l1 := Int.fmod_nonneg_of_pos a hp
      have l2 := Int.fmod_lt_of_pos a hp
      obtain ⟨m, w⟩ := ih b (a.fmod b) s hb l1 (by omega)
      rw [gcd_fmod] at w
      exact ⟨m + 1, .nx (s1 := s) (s2 := s) (by simp [mFun, mSeq, mSet, mIte, mT, mOp, mVar, mC, mRet, mCall, mCons, mNil, mNext, mUn, mTup, mB, mAnd, mOr, mNot, tmAnd, tmOr, tmNot, mIf, negD, ev_eqI, ev_neI, ev_fr0, ev_fr1, ev_add, ev_sub, ev_gt, ev_lt, h0]) (by simp [mFun, mSeq, mSet, mIte, mT, mOp, mVar, mC, mRet, mCall, mCons, mNil, mNext, mUn, mTup, mB, mAnd, mOr, mNot, tmAnd, tmOr, tmNot, mIf, negD, ev_eqI, ev_neI, ev_fr0, ev_fr1, ev_add, ev_sub, ev_gt, ev_lt, mPar2, mmE, mmNil, modD, iiD, intD, h0]) w⟩
theorem sp_law_gcd (a b : Int) (s : S) (ha : 0 ≤ a) (hb : 0 ≤ b) : φ__law_gcd [.int a, .int b] s = some (.int (Int.gcd a b), s) := by
  obtain ⟨m, w⟩ := law_gcd_wh b.natAbs a b s ha hb (Nat.le_refl _)
  have h := mWhile_of w
  unfold φ__law_gcd m__law_gcd
  simp [mFun, mSeq, mSet, mIte, mT, mOp, mVar, mC, mRet, mCall, mCons, mNil, mNext, mUn, mTup, mB, mAnd, mOr, mNot, tmAnd, tmOr, tmNot, mIf, negD, ev_eqI, ev_neI, ev_fr0, ev_fr1, ev_add, ev_sub, ev_gt, ev_lt, h]
end DL
set_option Elab.async false
set_option linter.all false
set_option maxRecDepth 100000
set_option maxHeartbeats 1000000
set_option exponentiation.threshold 10000
namespace DL
open PySem
/-! the mathematics, part 5: the draws -/
structure SI (s : S) : Prop where
  len : s.1.length ≤ 63
  lo : 0 ≤ s.2
  hi : s.2 < 2147483647
abbrev hdE (m : Int) : Env := [.im (.dict []), .im (.int m), .un]
theorem ev_lastI {cs : List Int} {c : Int} : L2.atI (cs ++ [c]) (-1) = some c := by
  simp [L2.atI, L2.ixN]
  rw [if_pos (by omega), show ((-1 : Int) + ((cs.length : Int) + 1)).toNat = cs.length by omega]
  simp
theorem draw_wh (m : Int) : ∀ (n : Nat) (cs : List Int) (st : Int), cs.length ≤ n → ∃ (k : Nat) (cs' : List Int), Wh (tmAnd (tmCells 0) (mT (mOp eqD (mCellAt 0 (mUn negD (mC (.int 1)))) (mC (.int 0))))) (mPopS 0) k (hdE m) (cs, st) (.nx (hdE m) (cs', st)) ∧ cs'.length ≤ cs.length := by
  intro n
  induction n with
  | zero =>
    intro cs st h
    have : cs = [] := List.eq_nil_of_length_eq_zero (by omega)
    subst this
    exact ⟨0, [], .stop (by simp [mFun, mSeq, mSet, mIte, mT, mOp, mVar, mC, mRet, mCall, mCons, mNil, mNext, mUn, mTup, mB, mAnd, mOr, mNot, tmAnd, tmOr, tmNot, mIf, negD, ev_eqI, ev_neI, ev_fr0, ev_fr1, ev_add, ev_sub, ev_gt, ev_lt, tmCells, isHd]), Nat.le_refl _⟩
  | succ n ih =>
    intro cs st h
    rcases List.eq_nil_or_concat cs with rfl | ⟨l, c, rfl⟩
    · exact ⟨0, [], .stop (by simp [mFun, mSeq, mSet, mIte, mT, mOp, mVar, mC, mRet, mCall, mCons, mNil, mNext, mUn, mTup, mB, mAnd, mOr, mNot, tmAnd, tmOr, tmNot, mIf, negD, ev_eqI, ev_neI, ev_fr0, ev_fr1, ev_add, ev_sub, ev_gt, ev_lt, tmCells, isHd]), Nat.le_refl _⟩
    · rw [List.concat_eq_append] at h ⊢
      by_cases hc : c = 0
      · subst hc
        obtain ⟨k, cs', w, l1⟩ := ih l st (by simp at h; omega)
        refine ⟨k + 1, cs', .nx (s1 := (l ++ [0], st)) ?_ ?_ w, by simp; omega⟩
        · simp [mFun, mSeq, mSet, mIte, mT, mOp, mVar, mC, mRet, mCall, mCons, mNil, mNext, mUn, mTup, mB, mAnd, mOr, mNot, tmAnd, tmOr, tmNot, mIf, negD, ev_eqI, ev_neI, ev_fr0, ev_fr1, ev_add, ev_sub, ev_gt, ev_lt, tmCells, isHd, mCellAt, ev_lastI]
        · simp [mPopS, isHd]
      · exact ⟨0, l ++ [c], .stop (by simp [mFun, mSeq, mSet, mIte, mT, mOp, mVar, mC, mRet, mCall, mCons, mNil, mNext, mUn, mTup, mB, mAnd, mOr, mNot, tmAnd, tmOr, tmNot, mIf, negD, ev_eqI, ev_neI, ev_fr0, ev_fr1, ev_add, ev_sub, ev_gt, ev_lt, tmCells, isHd, mCellAt, ev_lastI, hc]), Nat.le_refl _⟩
theorem sp_draw (m : Int) (s : S) (hs : SI s) (hm : 0 < m) (hb : m.natAbs < 2 ^ 9000) : ∃ (v : Int) (s' : S), φ__law_draw [.dict [], .int m] s = some (.int v, s') ∧ 0 ≤ v ∧ v < m ∧ SI s' := by
  obtain ⟨cs, st⟩ := s
  obtain ⟨k, cs', w, l⟩ := draw_wh m cs.length cs st (Nat.le_refl _)
  have h := mWhile_of w
  have hl : cs.length ≤ 63 := hs.len
  have hm0 : m ≠ 0 := by omega
  rcases List.eq_nil_or_concat cs' with rfl | ⟨l', c, rfl⟩
  · have hm1 : mulOk st 48271 = true := mulOk_of (a := 64) (b := 64) (by have := hs.lo; have := hs.hi; simp at *; omega) (by decide) (by decide) (by decide) (by decide)
    refine ⟨(((st * 48271 + 29).fmod 2147483647).fdiv 32).fmod m, ([], (st * 48271 + 29).fmod 2147483647), ?_, Int.fmod_nonneg_of_pos _ hm, Int.fmod_lt_of_pos _ hm, ⟨by simp, Int.fmod_nonneg_of_pos _ (by decide), Int.fmod_lt_of_pos _ (by decide)⟩⟩
    unfold φ__law_draw m__law_draw
    simp [mFun, mSeq, mSet, mIte, mT, mOp, mVar, mC, mRet, mCall, mCons, mNil, mNext, mUn, mTup, mB, mAnd, mOr, mNot, tmAnd, tmOr, tmNot, mIf, negD, ev_eqI, ev_neI, ev_fr0, ev_fr1, ev_add, ev_sub, ev_gt, ev_lt, h, tmCells, isHd, mStirSet, mStir, modD, iiD, intD, hm0, ev_mul hm1, ev_div (i := (st * 48271 + 29).fmod 2147483647) (j := 32) (by decide) (by decide)]
  · rw [List.concat_eq_append] at h l
    have e : (l' ++ [c])[(l' ++ [c]).length - 1]? = some c := by simp
    refine ⟨c.fmod m, (l' ++ [c.fdiv m], st), ?_, Int.fmod_nonneg_of_pos _ hm, Int.fmod_lt_of_pos _ hm, ⟨by simp at l ⊢; omega, hs.lo, hs.hi⟩⟩
    have hle : l'.length ≤ 1000 := by simp at l; omega
    unfold φ__law_draw m__law_draw
    simp [mFun, mSeq, mSet, mIte, mT, mOp, mVar, mC, mRet, mCall, mCons, mNil, mNext, mUn, mTup, mB, mAnd, mOr, mNot, tmAnd, tmOr, tmNot, mIf, negD, ev_eqI, ev_neI, ev_fr0, ev_fr1, ev_add, ev_sub, ev_gt, ev_lt, h, hm0, hle, tmCells, isHd, mPopSet, mCellApp, modD, iiD, intD, ev_div (i := c) (j := m) (by omega) hb]
end DL
set_option Elab.async false
set_option linter.all false
set_option maxRecDepth 100000
set_option maxHeartbeats 1000000
set_option exponentiation.threshold 10000
namespace DL
open PySem
/-! the mathematics, part 6: picks, turned rows -/
theorem sz_len {n : Nat} (h : n ≤ 1000000) : ((n : Int)).natAbs < 2 ^ 9000 := by
  have h2 : (1000000 : Nat) < 2 ^ 9000 := Nat.lt_of_lt_of_le (show 1000000 < 2 ^ 20 by decide) (Nat.pow_le_pow_right (by decide) (by decide))
  omega
theorem sp_pick (xs : List D) (s : S) (hs : SI s) (h0 : xs ≠ []) (hl : xs.length ≤ 1000) : ∃ (d : D) (s' : S), φ__law_pick [.dict [], .list xs] s = some (d, s') ∧ d ∈ xs ∧ SI s' := by
  have hp : 0 < xs.length := List.length_pos_iff.mpr h0
  obtain ⟨v, s', e, v0, v1, hs'⟩ := sp_draw xs.length s hs (by omega) (sz_len (by omega))
  have hk : v.toNat < xs.length := by omega
  refine ⟨xs[v.toNat], s', ?_, List.getElem_mem hk, hs'⟩
  unfold φ__law_pick m__law_pick
  simp [mFun, mSeq, mSet, mIte, mT, mOp, mVar, mC, mRet, mCall, mCons, mNil, mNext, mUn, mTup, mB, mAnd, mOr, mNot, tmAnd, tmOr, tmNot, mIf, negD, ev_eqI, ev_neI, ev_fr0, ev_fr1, ev_add, ev_sub, ev_gt, ev_lt, lenD, e, ixD, L2.atI, L2.ixN, v0, v1, hk]
theorem perm_pick (rest : List D) (k : Nat) (h : k < rest.length) : (rest[k] :: rest.eraseIdx k).Perm rest := by
  rw [List.eraseIdx_eq_take_drop_succ]
  have e : rest = rest.take k ++ rest[k] :: rest.drop (k+1) := by
    rw [← List.drop_eq_getElem_cons h, List.take_append_drop]
  conv => rhs; rw [e]
  exact List.perm_middle.symm
noncomputable abbrev tB : SM := (mAppX 3 (xPopAt 4 (mCall φ__law_draw (mCons (mVar 0) (mCons (mView (mB lenD (mCons (mVar 4) mNil))) mNil)))))
theorem turned_loop (xs : List D) : ∀ (is : List D) (t : Sl) (found rest : List D) (s : S), SI s → is.length = rest.length → found.length + rest.length ≤ 1000 →
    ∃ (t' : Sl) (ys : List D) (s' : S), forL (gN 2) tB is [.im (.dict []), .im (.list xs), t, .ow found, .ow rest] s = some (.nx [.im (.dict []), .im (.list xs), t', .ow (found ++ ys), .ow []] s') ∧ ys.Perm rest ∧ SI s' := by
  intro is
  induction is with
  | nil =>
    intro t found rest s hs hl hb
    have : rest = [] := List.eq_nil_of_length_eq_zero (by simpa using hl.symm)
    subst this
    exact ⟨t, [], s, by simp [forL], .nil, hs⟩
  | cons i is ih =>
    intro t found rest s hs hl hb
    have hp : 0 < rest.length := by simp at hl; omega
    obtain ⟨v, s1, e, v0, v1, hs1⟩ := sp_draw rest.length s hs (by omega) (sz_len (by omega))
    have hk : v.toNat < rest.length := by omega
    have le : (rest.eraseIdx v.toNat).length = rest.length - 1 := by rw [List.length_eraseIdx]; simp [hk]
    obtain ⟨t', ys, s', e2, p, hs'⟩ := ih (.im i) (found ++ [rest[v.toNat]]) (rest.eraseIdx v.toNat) s1 hs1 (by simp at hl; omega) (by simp; omega)
    have h1 : rest.length ≤ 1000000 := by omega
    have h2 : found.length ≤ 1000000 := by omega
    refine ⟨t', rest[v.toNat] :: ys, s', ?_, ?_, hs'⟩
    · rw [List.append_assoc] at e2
      simp [mFun, mSeq, mSet, mIte, mT, mOp, mVar, mC, mRet, mCall, mCons, mNil, mNext, mUn, mTup, mB, mAnd, mOr, mNot, tmAnd, tmOr, tmNot, mIf, negD, ev_eqI, ev_neI, ev_fr0, ev_fr1, ev_add, ev_sub, ev_gt, ev_lt, forL, gN, tB, mAppX, isOw, xPopAt, mView, view, lenD, flatD, e, L2.ixN, v0, v1, hk, h1, h2]
      simpa using e2
    · exact (p.cons _).trans (perm_pick rest _ hk)
end DL
set_option Elab.async false
set_option linter.all false
set_option maxRecDepth 100000
set_option maxHeartbeats 1000000
set_option exponentiation.threshold 10000
namespace DL
open PySem
/-! the mathematics, part 7: turned, greatest, least, sum -/
theorem sgn_lt (x y : Rat) : (0 < sgn (x.num * y.den - y.num * x.den)) ↔ y < x := by
  rw [Rat.lt_iff]
  unfold sgn
  split
  · omega
  · split <;> omega
theorem sgn_gt (x y : Rat) : (sgn (x.num * y.den - y.num * x.den) < 0) ↔ x < y := by
  rw [Rat.lt_iff]
  unfold sgn
  split
  · omega
  · split <;> omega
theorem sz_two : (2 : Int).natAbs < 2 ^ 9000 := Nat.lt_of_lt_of_le (show (2 : Int).natAbs < 2 ^ 2 by decide) (Nat.pow_le_pow_right (by decide) (by decide))
inductive Row (xs : List D) : D → Prop where
  | l : Row xs (.list xs)
  | t : Row xs (.tuple xs)
theorem mRg1_of {m : EM (List D)} {env : Env} {s s' : S} {j : Int} (h0 : m env s = some ([.int j], s')) (h : rgOk 0 j = true) : mRg1 m env s = some (rgD 0 j, s') := by
  unfold mRg1
  rw [h0, Option.bind_some]
  exact if_pos h
theorem mRg2_of {m : EM (List D)} {env : Env} {s s' : S} {i j : Int} (h0 : m env s = some ([.int i, .int j], s')) (h : rgOk i j = true) : mRg2 m env s = some (rgD i j, s') := by
  unfold mRg2
  rw [h0, Option.bind_some]
  exact if_pos h
theorem rgOk_of {i j : Int} (h0 : 0 ≤ i) (h1 : i ≤ 1000000000) (h2 : 0 ≤ j) (h3 : j ≤ 1000000000) : rgOk i j = true := by
  unfold rgOk
  exact decide_eq_true (by omega)
theorem ev_len1 (i : Nat) (env : Env) (s : S) (xs : List D) (h : env[i]? = some (.im (.list xs))) : mCons (mB lenD (mCons (mVar i) mNil)) mNil env s = some ([.int xs.length], s) := by
  simp [mFun, mSeq, mSet, mIte, mT, mOp, mVar, mC, mRet, mCall, mCons, mNil, mNext, mUn, mTup, mB, mAnd, mOr, mNot, tmAnd, tmOr, tmNot, mIf, negD, ev_eqI, ev_neI, ev_fr0, ev_fr1, ev_add, ev_sub, ev_gt, ev_lt, lenD, h]
theorem mSeq_nx {a b : SM} {env e1 : Env} {s s1 : S} (h : a env s = some (.nx e1 s1)) : mSeq a b env s = b e1 s1 := by
  unfold mSeq
  rw [h]
  rfl
theorem mSeq_rt {a b : SM} {env : Env} {s s1 : S} {d : D} (h : a env s = some (.rt d s1)) : mSeq a b env s = some (.rt d s1) := by
  unfold mSeq
  rw [h]
  rfl
theorem mFor_of {mi : EM (List D)} {g : GM} {b : SM} {env : Env} {l : List D} {s s1 : S} (h : mi env s = some (l, s1)) : mFor mi g b env s = forL g b l env s1 := by
  unfold mFor
  rw [h]
  rfl
theorem tp (xs : List D) (s : S) : mPar2 3 4 (mmL (mLst mNil) (mmL (mBL listL (mCons (mVar 1) mNil)) mmNil)) [.im (.dict []), .im (.list xs), .un, .un, .un] s = some (.nx [.im (.dict []), .im (.list xs), .un, .ow [], .ow xs] s) := by
  simp [mFun, mSeq, mSet, mIte, mT, mOp, mVar, mC, mRet, mCall, mCons, mNil, mNext, mUn, mTup, mB, mAnd, mOr, mNot, tmAnd, tmOr, tmNot, mIf, negD, ev_eqI, ev_neI, ev_fr0, ev_fr1, ev_add, ev_sub, ev_gt, ev_lt, mPar2, listL, mmL, mBL, mLst, mmNil]
theorem te (xs ys : List D) (s1 s2 : S) (t a : Sl) (v : Int) (e2 : φ__law_draw [.dict [], .int 2] s1 = some (.int v, s2)) (hv : v = 0) : (mFrz 3 (mRet (mIf (mT (mOp eqD (mCall φ__law_draw (mCons (mVar 0) (mCons (mC (.int 2)) mNil))) (mC (.int 0)))) (mVar 3) (mB tupleD (mCons (mVar 3) mNil))))) [.im (.dict []), .im (.list xs), t, .ow ys, a] s1 = some (.rt (.list ys) s2) := by
  simp [mFun, mSeq, mSet, mIte, mT, mOp, mVar, mC, mRet, mCall, mCons, mNil, mNext, mUn, mTup, mB, mAnd, mOr, mNot, tmAnd, tmOr, tmNot, mIf, negD, ev_eqI, ev_neI, ev_fr0, ev_fr1, ev_add, ev_sub, ev_gt, ev_lt, mFrz, e2, hv]
theorem te2 (xs ys : List D) (s1 s2 : S) (t a : Sl) (v : Int) (e2 : φ__law_draw [.dict [], .int 2] s1 = some (.int v, s2)) (hv : ¬ v = 0) : (mFrz 3 (mRet (mIf (mT (mOp eqD (mCall φ__law_draw (mCons (mVar 0) (mCons (mC (.int 2)) mNil))) (mC (.int 0)))) (mVar 3) (mB tupleD (mCons (mVar 3) mNil))))) [.im (.dict []), .im (.list xs), t, .ow ys, a] s1 = some (.rt (.tuple ys) s2) := by
  simp [mFun, mSeq, mSet, mIte, mT, mOp, mVar, mC, mRet, mCall, mCons, mNil, mNext, mUn, mTup, mB, mAnd, mOr, mNot, tmAnd, tmOr, tmNot, mIf, negD, ev_eqI, ev_neI, ev_fr0, ev_fr1, ev_add, ev_sub, ev_gt, ev_lt, mFrz, e2, hv, tupleD]
theorem mFun2_of {n : Nat} {m : SM} {d1 d2 d : D} {s s' : S} (h : m (.im d1 :: .im d2 :: List.replicate n .un) s = some (.rt d s')) : mFun 2 (2 + n) m [d1, d2] s = some (d, s') := by
  have e : 2 + n - 2 = n := by omega
  simp [mFun, e, h]
theorem mFun1_of {n : Nat} {m : SM} {d1 d : D} {s s' : S} (h : m (.im d1 :: List.replicate n .un) s = some (.rt d s')) : mFun 1 (1 + n) m [d1] s = some (d, s') := by
  have e : 1 + n - 1 = n := by omega
  simp [mFun, e, h]
theorem sp_turned (xs : List D) (s : S) (hs : SI s) (hl : xs.length ≤ 1000) : ∃ (d : D) (ys : List D) (s' : S), φ__law_turned [.dict [], .list xs] s = some (d, s') ∧ Row ys d ∧ ys.Perm xs ∧ SI s' := by
  obtain ⟨t', ys, s1, e, p, hs1⟩ := turned_loop xs (rgD 0 xs.length) .un [] xs s hs (by simp [rgD]) (by simpa using hl)
  obtain ⟨v, s2, e2, v0, v1, hs2⟩ := sp_draw 2 s1 hs1 (by omega) sz_two
  have hr := mRg1_of (s := s) (ev_len1 1 [.im (.dict []), .im (.list xs), .un, .ow [], .ow xs] s xs rfl) (rgOk_of (by omega) (by omega) (by omega) (by omega))
  simp only [List.nil_append] at e
  by_cases hv : v = 0
  · refine ⟨.list ys, ys, s2, mFun2_of (n := 3) ?_, .l, p, hs2⟩
    exact (mSeq_nx (tp xs s)).trans ((mSeq_nx ((mFor_of hr).trans e)).trans (te xs ys s1 s2 t' (.ow []) v e2 hv))
  · refine ⟨.tuple ys, ys, s2, mFun2_of (n := 3) ?_, .t, p, hs2⟩
    exact (mSeq_nx (tp xs s)).trans ((mSeq_nx ((mFor_of hr).trans e)).trans (te2 xs ys s1 s2 t' (.ow []) v e2 hv))
def mx (a b : Rat) : Rat := if a < b then b else a
def mn (a b : Rat) : Rat := if b < a then b else a
noncomputable abbrev gB : SM := (mIte (mT (mOp gtD (mCall φ_compared (mCons (mVar 2) (mCons (mVar 1) mNil))) (mC (.int 0)))) (mSet 1 (mVar 2)) mNext)
theorem greatest_loop {n : Nat} (hn : 0 < n) (hb : n + n ≤ 1000001) (d : D) : ∀ (xs : List Rat) (f : Rat) (t : Sl) (s : S), Sz n f → (∀ x ∈ xs, Sz n x) →
    ∃ t' : Sl, forL (gN 2) gB (xs.map fr) [.im d, .im (fr f), t] s = some (.nx [.im d, .im (fr (xs.foldl mx f)), t'] s) := by
  intro xs
  induction xs with
  | nil => intro f t s _ _; exact ⟨t, rfl⟩
  | cons x xs ih =>
    intro f t s hf hx
    have h1 := hx x (List.mem_cons_self ..)
    have h2 : ∀ y ∈ xs, Sz n y := fun y m => hx y (List.mem_cons_of_mem _ m)
    have q := sp_compared x f s h1 hf hn hn hb
    have q2 := sgn_lt x f
    by_cases hc : f < x
    · obtain ⟨t', e⟩ := ih x (.im (fr x)) s h1 h2
      refine ⟨t', ?_⟩
      have q3 := q2.mpr hc
      simp only [List.foldl_cons, mx, if_pos hc]
      simp [mFun, mSeq, mSet, mIte, mT, mOp, mVar, mC, mRet, mCall, mCons, mNil, mNext, mUn, mTup, mB, mAnd, mOr, mNot, tmAnd, tmOr, tmNot, mIf, negD, ev_eqI, ev_neI, ev_fr0, ev_fr1, ev_add, ev_sub, ev_gt, ev_lt, forL, gN, gB, q, q3, e]
    · obtain ⟨t', e⟩ := ih f (.im (fr x)) s hf h2
      refine ⟨t', ?_⟩
      have q3 : ¬ 0 < sgn (x.num * f.den - f.num * x.den) := fun z => hc (q2.mp z)
      simp only [List.foldl_cons, mx, if_neg hc]
      simp [mFun, mSeq, mSet, mIte, mT, mOp, mVar, mC, mRet, mCall, mCons, mNil, mNext, mUn, mTup, mB, mAnd, mOr, mNot, tmAnd, tmOr, tmNot, mIf, negD, ev_eqI, ev_neI, ev_fr0, ev_fr1, ev_add, ev_sub, ev_gt, ev_lt, forL, gN, gB, q, q3, e]
noncomputable abbrev lB : SM := (mIte (mT (mOp ltD (mCall φ_compared (mCons (mVar 2) (mCons (mVar 1) mNil))) (mC (.int 0)))) (mSet 1 (mVar 2)) mNext)
theorem least_loop {n : Nat} (hn : 0 < n) (hb : n + n ≤ 1000001) (d : D) : ∀ (xs : List Rat) (f : Rat) (t : Sl) (s : S), Sz n f → (∀ x ∈ xs, Sz n x) →
    ∃ t' : Sl, forL (gN 2) lB (xs.map fr) [.im d, .im (fr f), t] s = some (.nx [.im d, .im (fr (xs.foldl mn f)), t'] s) := by
  intro xs
  induction xs with
  | nil => intro f t s _ _; exact ⟨t, rfl⟩
  | cons x xs ih =>
    intro f t s hf hx
    have h1 := hx x (List.mem_cons_self ..)
    have h2 : ∀ y ∈ xs, Sz n y := fun y m => hx y (List.mem_cons_of_mem _ m)
    have q := sp_compared x f s h1 hf hn hn hb
    have q2 := sgn_gt x f
    by_cases hc : x < f
    · obtain ⟨t', e⟩ := ih x (.im (fr x)) s h1 h2
      refine ⟨t', ?_⟩
      have q3 := q2.mpr hc
      simp only [List.foldl_cons, mn, if_pos hc]
      simp [mFun, mSeq, mSet, mIte, mT, mOp, mVar, mC, mRet, mCall, mCons, mNil, mNext, mUn, mTup, mB, mAnd, mOr, mNot, tmAnd, tmOr, tmNot, mIf, negD, ev_eqI, ev_neI, ev_fr0, ev_fr1, ev_add, ev_sub, ev_gt, ev_lt, forL, gN, lB, q, q3, e]
    · obtain ⟨t', e⟩ := ih f (.im (fr x)) s hf h2
      refine ⟨t', ?_⟩
      have q3 : ¬ sgn (x.num * f.den - f.num * x.den) < 0 := fun z => hc (q2.mp z)
      simp only [List.foldl_cons, mn, if_neg hc]
      simp [mFun, mSeq, mSet, mIte, mT, mOp, mVar, mC, mRet, mCall, mCons, mNil, mNext, mUn, mTup, mB, mAnd, mOr, mNot, tmAnd, tmOr, tmNot, mIf, negD, ev_eqI, ev_neI, ev_fr0, ev_fr1, ev_add, ev_sub, ev_gt, ev_lt, forL, gN, lB, q, q3, e]
theorem mx_spec (xs : List Rat) : ∀ (f m : Rat), (f = m ∨ m ∈ xs) → f ≤ m → (∀ x ∈ xs, x ≤ m) → xs.foldl mx f = m := by
  induction xs with
  | nil => intro f m h _ _; simpa using h
  | cons x xs ih =>
    intro f m h hf hx
    have h1 := hx x (List.mem_cons_self ..)
    simp only [List.foldl_cons]
    refine ih _ m ?_ ?_ (fun y hy => hx y (List.mem_cons_of_mem _ hy))
    · unfold mx
      rcases h with h | h
      · split
        · left; grind
        · exact .inl h
      · rcases List.mem_cons.mp h with h | h
        · left; split <;> grind
        · exact .inr h
    · unfold mx; split <;> assumption
theorem mn_spec (xs : List Rat) : ∀ (f m : Rat), (f = m ∨ m ∈ xs) → m ≤ f → (∀ x ∈ xs, m ≤ x) → xs.foldl mn f = m := by
  induction xs with
  | nil => intro f m h _ _; simpa using h
  | cons x xs ih =>
    intro f m h hf hx
    have h1 := hx x (List.mem_cons_self ..)
    simp only [List.foldl_cons]
    refine ih _ m ?_ ?_ (fun y hy => hx y (List.mem_cons_of_mem _ hy))
    · unfold mn
      rcases h with h | h
      · split
        · left; grind
        · exact .inl h
      · rcases List.mem_cons.mp h with h | h
        · left; split <;> grind
        · exact .inr h
    · unfold mn; split <;> assumption
end DL
set_option Elab.async false
set_option linter.all false
set_option maxRecDepth 100000
set_option maxHeartbeats 1000000
set_option exponentiation.threshold 10000
namespace DL
open PySem
/-! the mathematics, part 8: greatest, least, sum -/
theorem row_items {xs : List D} {d : D} (r : Row xs d) (env : Env) (i : Nat) (s : S) (h : env[i]? = some (.im d)) : mItems (mVar i) env s = some (xs, s) := by
  cases r with
  | l => simp [mItems, mVar, h, seqD]
  | t => simp [mItems, mVar, h, seqD]
theorem row_first {x : D} {xs : List D} {d : D} (r : Row (x :: xs) d) : ixD d (.int 0) = some x := by
  cases r with
  | l => simp [ixD, L2.atI, L2.ixN]
  | t => simp [ixD, L2.atI, L2.ixN]
theorem sp_greatest {n : Nat} (hn : 0 < n) (hb : n + n ≤ 1000001) {xs : List Rat} {d : D} (r : Row (xs.map fr) d) (m : Rat) (hm : m ∈ xs) (hx : ∀ x ∈ xs, x ≤ m) (hz : ∀ x ∈ xs, Sz n x) (s : S) : φ_greatest_of [d] s = some (fr m, s) := by
  cases xs with
  | nil => cases hm
  | cons x xs =>
    obtain ⟨t', e⟩ := greatest_loop hn hb d (x :: xs) x .un s (hz x (List.mem_cons_self ..)) hz
    have q := mx_spec (x :: xs) x m (.inr hm) (hx x (List.mem_cons_self ..)) hx
    rw [q] at e
    have a1 : mSet 1 (mOp ixD (mVar 0) (mC (.int 0))) [.im d, .un, .un] s = some (.nx [.im d, .im (fr x), .un] s) := by
      simp [mFun, mSeq, mSet, mIte, mT, mOp, mVar, mC, mRet, mCall, mCons, mNil, mNext, mUn, mTup, mB, mAnd, mOr, mNot, tmAnd, tmOr, tmNot, mIf, negD, ev_eqI, ev_neI, ev_fr0, ev_fr1, ev_add, ev_sub, ev_gt, ev_lt, row_first r]
    refine mFun1_of (n := 2) ((mSeq_nx a1).trans ((mSeq_nx ((mFor_of (row_items r _ 0 s rfl)).trans e)).trans ?_))
    simp [mFun, mSeq, mSet, mIte, mT, mOp, mVar, mC, mRet, mCall, mCons, mNil, mNext, mUn, mTup, mB, mAnd, mOr, mNot, tmAnd, tmOr, tmNot, mIf, negD, ev_eqI, ev_neI, ev_fr0, ev_fr1, ev_add, ev_sub, ev_gt, ev_lt]
theorem sp_least {n : Nat} (hn : 0 < n) (hb : n + n ≤ 1000001) {xs : List Rat} {d : D} (r : Row (xs.map fr) d) (m : Rat) (hm : m ∈ xs) (hx : ∀ x ∈ xs, m ≤ x) (hz : ∀ x ∈ xs, Sz n x) (s : S) : φ_least_of [d] s = some (fr m, s) := by
  cases xs with
  | nil => cases hm
  | cons x xs =>
    obtain ⟨t', e⟩ := least_loop hn hb d (x :: xs) x .un s (hz x (List.mem_cons_self ..)) hz
    have q := mn_spec (x :: xs) x m (.inr hm) (hx x (List.mem_cons_self ..)) hx
    rw [q] at e
    have a1 : mSet 1 (mOp ixD (mVar 0) (mC (.int 0))) [.im d, .un, .un] s = some (.nx [.im d, .im (fr x), .un] s) := by
      simp [mFun, mSeq, mSet, mIte, mT, mOp, mVar, mC, mRet, mCall, mCons, mNil, mNext, mUn, mTup, mB, mAnd, mOr, mNot, tmAnd, tmOr, tmNot, mIf, negD, ev_eqI, ev_neI, ev_fr0, ev_fr1, ev_add, ev_sub, ev_gt, ev_lt, row_first r]
    refine mFun1_of (n := 2) ((mSeq_nx a1).trans ((mSeq_nx ((mFor_of (row_items r _ 0 s rfl)).trans e)).trans ?_))
    simp [mFun, mSeq, mSet, mIte, mT, mOp, mVar, mC, mRet, mCall, mCons, mNil, mNext, mUn, mTup, mB, mAnd, mOr, mNot, tmAnd, tmOr, tmNot, mIf, negD, ev_eqI, ev_neI, ev_fr0, ev_fr1, ev_add, ev_sub, ev_gt, ev_lt]
noncomputable abbrev uB : SM := (mIte (mT (mOp eqD (mOp ixD (mVar 1) (mC (.int 1))) (mVar 3)))
    (mAug 2 (ii0 fun i j => .int (i + j)) (mOp ixD (mVar 1) (mC (.int 0))))
    (mAsg (mCall φ_lowest (mCons (mOp addD (mOp mulD (mVar 2) (mOp ixD (mVar 1) (mC (.int 1)))) (mOp mulD (mOp ixD (mVar 1) (mC (.int 0))) (mVar 3))) (mCons (mOp mulD (mVar 3) (mOp ixD (mVar 1) (mC (.int 1)))) mNil))) (gT 2 (gsCons (gN 2) (gsCons (gN 3) gsNil)))))
theorem sz_divInt (p q : Int) (hq : q ≠ 0) : (Rat.divInt p q).num.natAbs ≤ p.natAbs ∧ (Rat.divInt p q).den ≤ q.natAbs := by
  constructor
  · rw [Rat.num_divInt]
    refine Nat.le_trans (Int.natAbs_ediv_le_natAbs _ _) ?_
    rw [Int.natAbs_mul, Int.natAbs_sign_of_ne_zero hq, Nat.one_mul]
    exact Nat.le_refl _
  · rw [Rat.den_divInt, if_neg hq]
    exact Nat.div_le_self _ _
theorem pw {a k : Nat} : 2 ^ (a * (k + 1)) * 2 ^ a = 2 ^ (a * (k + 1 + 1)) ∧ 2 ^ (a * (k + 1)) * 2 ^ k = 2 ^ (a * (k + 1) + k) ∧ 2 ^ (a * (k + 1)) * 2 ^ a * 2 ^ k * 2 = 2 ^ (a * (k + 1 + 1) + (k + 1)) := by
  refine ⟨by rw [← Nat.pow_add, Nat.mul_succ a (k + 1)], by rw [← Nat.pow_add], ?_⟩
  rw [← Nat.pow_add, ← Nat.pow_add, ← Nat.pow_succ, Nat.mul_succ a (k + 1)]
  rfl
theorem st_size {P A K t n b d : Nat} (hP : 0 < P) (hA : 0 < A) (hK : 0 < K) (ht : t < P * K) (hn : n < A) (hb : b < P) (hd : d < A) : t + n < P * A * K * 2 ∧ t * d + n * b < P * A * K * 2 ∧ b * d < P * A := by
  have h1 := Nat.mul_lt_mul'' ht hd
  have h2 := Nat.mul_lt_mul'' hn hb
  have h3 : P * K * A = P * A * K := by ac_rfl
  have h4 : A * P ≤ P * A * K := by rw [Nat.mul_comm A P]; exact Nat.le_mul_of_pos_right _ hK
  have h5 : A ≤ A * P := Nat.le_mul_of_pos_right _ hP
  have h6 : P * K ≤ P * K * A := Nat.le_mul_of_pos_right _ hA
  exact ⟨by omega, by omega, Nat.mul_lt_mul'' hb hd⟩
/-- the sums' sizes: with dens below 2^a and nums below 2^a, after k steps the bottom is below 2^(a*k) and the top below 2^(a*k + k) -/
theorem sum_loop {a N : Nat} (ha : 0 < a) (d : D) : ∀ (xs : List Rat) (k : Nat) (t b : Int) (o : Sl) (s : S), 0 < b → b.natAbs < 2 ^ (a * (k + 1)) → t.natAbs < 2 ^ (a * (k + 1) + k) → k + xs.length ≤ N → a * (N + 2) + N + a ≤ 1000000 → (∀ x ∈ xs, Sz a x) →
    ∃ (t2 b2 : Int) (o' : Sl), forL (gN 1) uB (xs.map fr) [.im d, o, .im (.int t), .im (.int b)] s = some (.nx [.im d, o', .im (.int t2), .im (.int b2)] s) ∧ 0 < b2 ∧ Rat.divInt t2 b2 = xs.foldl (· + ·) (Rat.divInt t b) := by
  intro xs
  induction xs with
  | nil => intro k t b o s hb _ _ _ _ _; exact ⟨t, b, o, rfl, hb, rfl⟩
  | cons x xs ih =>
    intro k t b o s hb hbz htz hk hN hx
    have h1 := hx x (List.mem_cons_self ..)
    have h2 : ∀ y ∈ xs, Sz a y := fun y m => hx y (List.mem_cons_of_mem _ m)
    obtain ⟨p1, p2, p3⟩ := pw (a := a) (k := k)
    have hbp : b.natAbs < 2 ^ (a * (k + 1)) := hbz
    rw [← p2] at htz
    obtain ⟨q1, q2, q3⟩ := st_size (P := 2 ^ (a * (k + 1))) (A := 2 ^ a) (K := 2 ^ k) (Nat.two_pow_pos _) (Nat.two_pow_pos _) (Nat.two_pow_pos _) htz h1.1 hbz h1.2
    rw [p3] at q1 q2
    rw [p1] at q3
    have hk2 : k + 1 ≤ N := by simp at hk; omega
    have hm : a * (k + 1 + 1) ≤ a * (N + 2) := Nat.mul_le_mul_left _ (by omega)
    have hm0 : a * (k + 1) ≤ a * (k + 1 + 1) := Nat.mul_le_mul_left _ (by omega)
    have hm1 : 0 < a * (k + 1) := Nat.mul_pos ha (by omega)
    have hd := den_ne x
    have hb0 : b ≠ 0 := by omega
    rw [p2] at htz
    by_cases he : (x.den : Int) = b
    · obtain ⟨t2, b2, o', e, r1, r2⟩ := ih (k + 1) (t + x.num) b (.im (fr x)) s hb (Nat.lt_of_lt_of_le hbz (Nat.pow_le_pow_right (by decide) hm0)) (Nat.lt_of_le_of_lt (Int.natAbs_add_le _ _) q1) (by simp at hk; omega) hN h2
      refine ⟨t2, b2, o', ?_, r1, ?_⟩
      · simp [mFun, mSeq, mSet, mIte, mT, mOp, mVar, mC, mRet, mCall, mCons, mNil, mNext, mUn, mTup, mB, mAnd, mOr, mNot, tmAnd, tmOr, tmNot, mIf, negD, ev_eqI, ev_neI, ev_fr0, ev_fr1, ev_add, ev_sub, ev_gt, ev_lt, forL, gN, uB, he, mAug, ii0, e]
      · have e3 : Rat.divInt (t + x.num) b = Rat.divInt t b + x := by
          have e4 : x = Rat.divInt x.num b := by rw [← he, Rat.num_divInt_den]
          have e5 := Rat.divInt_add_divInt t x.num hb0 hb0
          rw [← e4, ← Int.add_mul, Rat.divInt_mul_right hb0] at e5
          exact e5.symm
        rw [r2, List.foldl_cons, e3]
    · have hz0 : b * x.den ≠ 0 := Int.mul_ne_zero hb0 hd
      obtain ⟨z1, z2⟩ := sz_divInt (t * x.den + x.num * b) (b * x.den) hz0
      have w1 : (t * x.den + x.num * b).natAbs ≤ t.natAbs * x.den + x.num.natAbs * b.natAbs := by
        refine Nat.le_trans (Int.natAbs_add_le _ _) ?_
        rw [Int.natAbs_mul, Int.natAbs_mul, Int.natAbs_natCast]
        exact Nat.le_refl _
      have w2 : (b * x.den).natAbs = b.natAbs * x.den := by rw [Int.natAbs_mul, Int.natAbs_natCast]
      have dp := (Rat.divInt (t * x.den + x.num * b) (b * x.den)).den_nz
      obtain ⟨t2, b2, o', e, r1, r2⟩ := ih (k + 1) (Rat.divInt (t * x.den + x.num * b) (b * x.den)).num (Rat.divInt (t * x.den + x.num * b) (b * x.den)).den (.im (fr x)) s (by omega)
        (by rw [Int.natAbs_natCast]; exact Nat.lt_of_le_of_lt (Nat.le_trans z2 (Nat.le_of_eq w2)) q3) (Nat.lt_of_le_of_lt (Nat.le_trans z1 w1) q2) (by simp at hk; omega) hN h2
      have m1 : mulOk t x.den = true := mulOk_of (a := a * (k + 1) + k) (b := a) htz (by simpa using h1.2) (by omega) ha (by omega)
      have m2 : mulOk x.num b = true := mulOk_of (a := a) (b := a * (k + 1)) h1.1 hbz ha hm1 (by omega)
      have m3 : mulOk b x.den = true := mulOk_of (a := a * (k + 1)) (b := a) hbz (by simpa using h1.2) hm1 ha (by omega)
      refine ⟨t2, b2, o', ?_, r1, ?_⟩
      · have hl := sp_lowest (t * x.den + x.num * b) (b * x.den) s hz0
        generalize hZ : Rat.divInt (t * x.den + x.num * b) (b * x.den) = Z at *
        simp [mFun, mSeq, mSet, mIte, mT, mOp, mVar, mC, mRet, mCall, mCons, mNil, mNext, mUn, mTup, mB, mAnd, mOr, mNot, tmAnd, tmOr, tmNot, mIf, negD, ev_eqI, ev_neI, ev_fr0, ev_fr1, ev_add, ev_sub, ev_gt, ev_lt, forL, gN, uB, he, mAsg, ev_mul m1, ev_mul m2, ev_mul m3, hl, gT, gsCons, gsNil]
        simp [fr]
        exact e
      · rw [Rat.num_divInt_den] at r2
        rw [r2, List.foldl_cons, ← Rat.divInt_add_divInt t x.num hb0 hd, Rat.num_divInt_den]
theorem sum_perm {xs ys : List Rat} (p : xs.Perm ys) : ∀ z : Rat, xs.foldl (· + ·) z = ys.foldl (· + ·) z := by
  intro z
  exact p.foldl_eq' (fun x _ y _ z => by grind) z
theorem sp_sum {a N : Nat} (ha : 0 < a) {xs ys : List Rat} {d : D} (r : Row (ys.map fr) d) (p : ys.Perm xs) (hN : xs.length ≤ N) (hb : a * (N + 2) + N + a ≤ 1000000) (hz : ∀ x ∈ xs, Sz a x) (s : S) : φ_sum_of [d] s = some (fr (xs.foldl (· + ·) 0), s) := by
  have h1 : (1 : Int).natAbs < 2 ^ (a * (0 + 1)) := by
    have : 1 < 2 ^ (a * (0 + 1)) := Nat.one_lt_two_pow (by omega)
    exact this
  have h2 : (0 : Int).natAbs < 2 ^ (a * (0 + 1) + 0) := Nat.two_pow_pos _
  obtain ⟨t2, b2, o', e, r1, r2⟩ := sum_loop (N := N) ha d ys 0 0 1 .un s (by decide) h1 h2 (by rw [p.length_eq]; omega) hb (fun x hx => hz x (p.mem_iff.mp hx))
  have e0 : Rat.divInt 0 1 = 0 := by decide
  rw [e0, sum_perm p] at r2
  have a1 : mAsg (mTup (mCons (mC (.int 0)) (mCons (mC (.int 1)) mNil))) (gT 2 (gsCons (gN 2) (gsCons (gN 3) gsNil))) [.im d, .un, .un, .un] s = some (.nx [.im d, .un, .im (.int 0), .im (.int 1)] s) := by
    simp [mFun, mSeq, mSet, mIte, mT, mOp, mVar, mC, mRet, mCall, mCons, mNil, mNext, mUn, mTup, mB, mAnd, mOr, mNot, tmAnd, tmOr, tmNot, mIf, negD, ev_eqI, ev_neI, ev_fr0, ev_fr1, ev_add, ev_sub, ev_gt, ev_lt, mAsg, gT, gsCons, gsNil, gN]
  refine mFun1_of (n := 3) ((mSeq_nx a1).trans ((mSeq_nx ((mFor_of (row_items r _ 0 s rfl)).trans e)).trans ?_))
  have hl := sp_lowest t2 b2 s (by omega)
  rw [r2] at hl
  simp [mFun, mSeq, mSet, mIte, mT, mOp, mVar, mC, mRet, mCall, mCons, mNil, mNext, mUn, mTup, mB, mAnd, mOr, mNot, tmAnd, tmOr, tmNot, mIf, negD, ev_eqI, ev_neI, ev_fr0, ev_fr1, ev_add, ev_sub, ev_gt, ev_lt, hl]
end DL
set_option Elab.async false
set_option linter.all false
set_option maxRecDepth 100000
set_option maxHeartbeats 1000000
set_option exponentiation.threshold 10000
namespace DL
open PySem
/-! the mathematics, part 9: the convergents -/
abbrev pr (p : Int × Int) : D := .tuple [.int p.1, .int p.2]
def nb : Int × Int → Int × Int → List Int → List (Int × Int)
  | _, _, [] => []
  | c, l, q :: qs => (q * c.1 + l.1, q * c.2 + l.2) :: nb (q * c.1 + l.1, q * c.2 + l.2) c qs
theorem step_size {q c l : Int} {n : Nat} (hq : q.natAbs < 2 ^ 201) (hc : c.natAbs < 2 ^ n) (hl : l.natAbs < 2 ^ n) : (q * c + l).natAbs < 2 ^ (n + 202) := by
  have h := Int.natAbs_add_le (q * c) l
  rw [Int.natAbs_mul] at h
  have h2 := Nat.mul_lt_mul'' hq hc
  have h3 : 2 ^ (n + 202) = 2 ^ 201 * 2 ^ n * 2 := by
    rw [Nat.pow_add 2 n 202, show (202 : Nat) = 201 + 1 by rfl, Nat.pow_succ 2 201]
    ac_rfl
  have h4 : 2 ^ n ≤ 2 ^ 201 * 2 ^ n := Nat.le_mul_of_pos_left _ (Nat.two_pow_pos _)
  omega
noncomputable abbrev nB : SM := (mSeq (mAsg (mIxV 2 (mOp subD (mView (mB lenD (mCons (mVar 2) mNil))) (mC (.int 1)))) (gT 2 (gsCons (gN 4) (gsCons (gN 5) gsNil))))
    (mSeq (mApp 2 (mTup (mCons (mOp addD (mOp mulD (mVar 1) (mVar 4)) (mOp ixD (mVar 3) (mC (.int 0)))) (mCons (mOp addD (mOp mulD (mVar 1) (mVar 5)) (mOp ixD (mVar 3) (mC (.int 1)))) mNil))))
    (mSet 3 (mTup (mCons (mVar 4) (mCons (mVar 5) mNil))))))
theorem at_last {xs : List D} {d : D} : L2.atI (xs ++ [d]) (xs.length : Int) = some d := by
  unfold L2.atI L2.ixN
  simp
  rw [if_pos (by omega)]
  simp
theorem nb_loop (d : D) : ∀ (qs : List Int) (c l : Int × Int) (pre : List D) (o a b : Sl) (n : Nat) (s : S), (∀ q ∈ qs, q.natAbs < 2 ^ 201) → c.1.natAbs < 2 ^ n → c.2.natAbs < 2 ^ n → l.1.natAbs < 2 ^ n → l.2.natAbs < 2 ^ n → 0 < n → n + 202 * qs.length ≤ 100000 → pre.length + qs.length ≤ 900 →
    ∃ (o' l' a' b' : Sl), forL (gN 1) nB (qs.map .int) [.im d, o, .ow (pre ++ [pr c]), .im (pr l), a, b] s = some (.nx [.im d, o', .ow (pre ++ [pr c] ++ (nb c l qs).map pr), l', a', b'] s) := by
  intro qs
  induction qs with
  | nil => intro c l pre o a b n s _ _ _ _ _ _ _ _; exact ⟨o, .im (pr l), a, b, by simp [forL, nb]⟩
  | cons q qs ih =>
    intro c l pre o a b n s hq c1 c2 l1 l2 hn hb hp
    have h1 := hq q (List.mem_cons_self ..)
    simp at hb hp
    obtain ⟨o', l', a', b', e⟩ := ih (q * c.1 + l.1, q * c.2 + l.2) c (pre ++ [pr c]) (.im (.int q)) (.im (.int c.1)) (.im (.int c.2)) (n + 202) s (fun y m => hq y (List.mem_cons_of_mem _ m))
      (step_size h1 c1 l1) (step_size h1 c2 l2) (Nat.lt_of_lt_of_le c1 (Nat.pow_le_pow_right (by decide) (by omega))) (Nat.lt_of_lt_of_le c2 (Nat.pow_le_pow_right (by decide) (by omega))) (by omega) (by omega) (by simp; omega)
    refine ⟨o', l', a', b', ?_⟩
    have m1 : mulOk q c.1 = true := mulOk_of h1 c1 (by decide) hn (by omega)
    have m2 : mulOk q c.2 = true := mulOk_of h1 c2 (by decide) hn (by omega)
    have hl1 : pre.length ≤ 900 := by omega
    have hl2 : pre.length ≤ 1000000 := by omega
    have hl6 : (pre.length : Int) < pre.length + 1 := by omega
    have hl5 : pre.length ≤ 999999 := by omega
    simp [mFun, mSeq, mSet, mIte, mT, mOp, mVar, mC, mRet, mCall, mCons, mNil, mNext, mUn, mTup, mB, mAnd, mOr, mNot, tmAnd, tmOr, tmNot, mIf, negD, ev_eqI, ev_neI, ev_fr0, ev_fr1, ev_add, ev_sub, ev_gt, ev_lt, forL, gN, nB, mAsg, mIxV, mView, view, lenD, flatD, gT, gsCons, gsNil, mApp, mAppX, ex, isOw, hl5, hl6, ixD, at_last, L2.atI, L2.ixN, ev_mul m1, ev_mul m2]
    simpa [nb] using e
theorem cut_one {α : Type} (x : α) (xs : List α) : cutD (x :: xs) (some 1) none = xs := by
  unfold cutD
  rw [HT.sIx_none, show (1 : Int) = ((1 : Nat) : Int) by rfl, HT.sIx_nat]
  have e : min 1 (x :: xs).length = 1 := by simp
  rw [e]
  simp
def cv (r : Int) (qs : List Int) : List (Int × Int) := (r, 1) :: nb (r, 1) (1, 0) qs
theorem one_pw {n : Nat} (hn : 0 < n) : (1 : Int).natAbs < 2 ^ n := by
  have : 1 < 2 ^ n := Nat.one_lt_two_pow (by omega)
  exact this
theorem sp_neighbours (r : Int) (qs : List Int) (s : S) (hr : r.natAbs < 2 ^ 201) (hq : ∀ q ∈ qs, q.natAbs < 2 ^ 201) (hl : qs.length ≤ 40) : φ__law_neighbours [.list (.int r :: qs.map .int)] s = some (.list ((cv r qs).map pr), s) := by
  obtain ⟨o', l', a', b', e⟩ := nb_loop (.list (.int r :: qs.map .int)) qs (r, 1) (1, 0) [] .un .un .un 201 s hq hr (one_pw (by decide)) (one_pw (by decide)) (Nat.two_pow_pos _) (by decide) (by omega) (by simp; omega)
  simp only [List.nil_append] at e
  have a1 : mPar2 2 3 (mmL (mLst (mCons (mTup (mCons (mOp ixD (mVar 0) (mC (.int 0))) (mCons (mC (.int 1)) mNil))) mNil)) (mmE (mTup (mCons (mC (.int 1)) (mCons (mC (.int 0)) mNil))) mmNil)) [.im (.list (.int r :: qs.map .int)), .un, .un, .un, .un, .un] s = some (.nx [.im (.list (.int r :: qs.map .int)), .un, .ow [pr (r, 1)], .im (pr (1, 0)), .un, .un] s) := by
    simp [mFun, mSeq, mSet, mIte, mT, mOp, mVar, mC, mRet, mCall, mCons, mNil, mNext, mUn, mTup, mB, mAnd, mOr, mNot, tmAnd, tmOr, tmNot, mIf, negD, ev_eqI, ev_neI, ev_fr0, ev_fr1, ev_add, ev_sub, ev_gt, ev_lt, mPar2, mmL, mmE, mmNil, mLst, ixD, L2.atI, L2.ixN]
  have a2 : mItems (mSl (mVar 0) (moI (mC (.int 1))) moN) [.im (.list (.int r :: qs.map .int)), .un, .ow [pr (r, 1)], .im (pr (1, 0)), .un, .un] s = some (qs.map .int, s) := by
    simp [mFun, mSeq, mSet, mIte, mT, mOp, mVar, mC, mRet, mCall, mCons, mNil, mNext, mUn, mTup, mB, mAnd, mOr, mNot, tmAnd, tmOr, tmNot, mIf, negD, ev_eqI, ev_neI, ev_fr0, ev_fr1, ev_add, ev_sub, ev_gt, ev_lt, mItems, mSl, moI, moN, cut_one, seqD]
  refine mFun1_of (n := 5) ((mSeq_nx a1).trans ((mSeq_nx ((mFor_of a2).trans e)).trans ?_))
  simp [mFun, mSeq, mSet, mIte, mT, mOp, mVar, mC, mRet, mCall, mCons, mNil, mNext, mUn, mTup, mB, mAnd, mOr, mNot, tmAnd, tmOr, tmNot, mIf, negD, ev_eqI, ev_neI, ev_fr0, ev_fr1, ev_add, ev_sub, ev_gt, ev_lt, mFrz, cv]
end DL
set_option Elab.async false
set_option linter.all false
set_option maxRecDepth 100000
set_option maxHeartbeats 1000000
set_option exponentiation.threshold 10000
namespace DL
open PySem
/-! the mathematics, part 10: the quotients -/
theorem le_big {m : Int} (h0 : 0 ≤ m) (h1 : m ≤ 2 ^ 200) : m.natAbs ≤ 2 ^ 200 := by
  have e : ((2 ^ 200 : Nat) : Int) = (2 : Int) ^ 200 := by norm_cast
  omega
theorem big_lt {k n : Nat} (h : k ≤ 2 ^ 200) (hn : 201 ≤ n) : k < 2 ^ n := Nat.lt_of_le_of_lt h (Nat.lt_of_lt_of_le (Nat.pow_lt_pow_right (by decide) (show 200 < 201 by decide)) (Nat.pow_le_pow_right (by decide) hn))
noncomputable abbrev qB : SM := (mApp 2 (mOp addD (mC (.int 1)) (mCall φ__law_draw (mCons (mVar 0) (mCons (mCall φ__law_pick (mCons (mVar 0) (mCons (mF (mLst (mCons (mC (.int 1)) (mCons (mC (.int 2)) (mCons (mVar 1) mNil))))) mNil))) mNil)))))
theorem q_loop (most : Int) (h0 : 1 ≤ most) (h1 : most.natAbs ≤ 2 ^ 200) : ∀ (is : List D) (o : Sl) (row : List D) (s : S), SI s → row.length + is.length ≤ 900 →
    ∃ (o' : Sl) (qs : List Int) (s' : S), forL (gN 3) qB is [.im (.dict []), .im (.int most), .ow row, o] s = some (.nx [.im (.dict []), .im (.int most), .ow (row ++ qs.map .int), o'] s') ∧ qs.length = is.length ∧ (∀ q ∈ qs, 1 ≤ q ∧ q.natAbs ≤ 2 ^ 200 + 1) ∧ SI s' := by
  intro is
  induction is with
  | nil => intro o row s hs _; exact ⟨o, [], s, by simp [forL], rfl, by simp, hs⟩
  | cons i is ih =>
    intro o row s hs hl
    simp at hl
    obtain ⟨d, s1, e1, md, hs1⟩ := sp_pick [.int 1, .int 2, .int most] s hs (by simp) (by simp)
    have hd : ∃ m : Int, d = .int m ∧ 1 ≤ m ∧ m.natAbs ≤ 2 ^ 200 := by
      simp only [List.mem_cons, List.not_mem_nil, or_false] at md
      have hp : 2 ≤ 2 ^ 200 := Nat.le_trans (show 2 ≤ 2 ^ 1 by decide) (Nat.pow_le_pow_right (by decide) (by decide))
      rcases md with rfl | rfl | rfl
      · exact ⟨1, rfl, by omega, Nat.le_trans (show (1 : Int).natAbs ≤ 2 by decide) hp⟩
      · exact ⟨2, rfl, by omega, Nat.le_trans (show (2 : Int).natAbs ≤ 2 by decide) hp⟩
      · exact ⟨most, rfl, h0, h1⟩
    obtain ⟨m, rfl, hm0, hm1⟩ := hd
    obtain ⟨v, s2, e2, v0, v1, hs2⟩ := sp_draw m s1 hs1 (by omega) (big_lt hm1 (by decide))
    obtain ⟨o', qs, s', e, l, w, hs'⟩ := ih (.im i) (row ++ [.int (1 + v)]) s2 hs2 (by simp; omega)
    have hl1 : row.length ≤ 1000000 := by omega
    refine ⟨o', (1 + v) :: qs, s', ?_, by simp [l], ?_, hs'⟩
    · simp [mFun, mSeq, mSet, mIte, mT, mOp, mVar, mC, mRet, mCall, mCons, mNil, mNext, mUn, mTup, mB, mAnd, mOr, mNot, tmAnd, tmOr, tmNot, mIf, negD, ev_eqI, ev_neI, ev_fr0, ev_fr1, ev_add, ev_sub, ev_gt, ev_lt, forL, gN, qB, mApp, mAppX, ex, isOw, mF, mLst, e1, e2, hl1]
      simpa using e
    · intro q hq
      rcases List.mem_cons.mp hq with rfl | hq
      · exact ⟨by omega, by omega⟩
      · exact w q hq
theorem ev_pow {i j : Int} (h0 : 0 ≤ j) (h1 : j ≤ 1000000) (h2 : i.natAbs < 2 ^ 64) : powD (.int i) (.int j) = some (.int (i ^ j.toNat)) := by
  have h : decide (0 ≤ j ∧ j ≤ 1000000 ∧ i.natAbs < 2 ^ 64) = true := decide_eq_true ⟨h0, h1, h2⟩
  simp only [powD, iiD, intD, h, if_true, ite_true, Option.bind_some]
theorem ten_lt : (10 : Int).natAbs < 2 ^ 64 := Nat.lt_of_lt_of_le (show (10 : Int).natAbs < 2 ^ 4 by decide) (Nat.pow_le_pow_right (by decide) (by decide))
theorem ev_pow6 : powD (.int 10) (.int 6) = some (.int 1000000) := ev_pow (i := 10) (j := 6) (by omega) (by omega) ten_lt
theorem ev_pow60 : powD (.int 10) (.int 60) = some (.int 1000000000000000000000000000000000000000000000000000000000000) := ev_pow (i := 10) (j := 60) (by omega) (by omega) ten_lt
theorem mop6 (env : Env) (s : S) : mOp powD (mC (.int 10)) (mC (.int 6)) env s = some (.int 1000000, s) := by
  show ((powD (.int 10) (.int 6)).bind fun g => some (g, s)) = _
  rw [ev_pow6]
  rfl
theorem mop60 (env : Env) (s : S) : mOp powD (mC (.int 10)) (mC (.int 60)) env s = some (.int 1000000000000000000000000000000000000000000000000000000000000, s) := by
  show ((powD (.int 10) (.int 60)).bind fun g => some (g, s)) = _
  rw [ev_pow60]
  rfl
theorem mCons_of (m : EM D) {ms : EM (List D)} {env : Env} {s s1 s2 : S} {d : D} {ds : List D} (h1 : m env s = some (d, s1)) (h2 : ms env s1 = some (ds, s2)) : mCons m ms env s = some (d :: ds, s2) := by
  simp [mCons, h1, h2]
theorem lst_of {ms : EM (List D)} {env : Env} {s s1 : S} {ds : List D} (h : ms env s = some (ds, s1)) (hl : ds.length ≤ 1000) : mF (mLst ms) env s = some (.list ds, s1) := by
  simp [mF, mLst, h, hl]
theorem sp_quotients (s : S) (hs : SI s) : ∃ (r : Int) (qs : List Int) (z : Int) (s' : S), φ__law_quotients [.dict []] s = some (.list (.int r :: (qs ++ [z]).map .int), s') ∧ r.natAbs ≤ 2 ^ 200 + 1 ∧ 1 ≤ qs.length ∧ qs.length ≤ 30 ∧ (∀ q ∈ qs, 1 ≤ q ∧ q.natAbs ≤ 2 ^ 200 + 1) ∧ 2 ≤ z ∧ z.natAbs ≤ 2 ^ 200 + 1 ∧ SI s' := by
  obtain ⟨d, s1, e1, md, hs1⟩ := sp_pick [.int 1, .int 3, .int 9, .int 1000000, .int 1000000000000000000000000000000000000000000000000000000000000] s hs (by simp) (by simp)
  have hd : ∃ m : Int, d = .int m ∧ 1 ≤ m ∧ m ≤ 1000000000000000000000000000000000000000000000000000000000000 := by
    simp only [List.mem_cons, List.not_mem_nil, or_false] at md
    rcases md with rfl | rfl | rfl | rfl | rfl
    · exact ⟨1, rfl, by omega, by omega⟩
    · exact ⟨3, rfl, by omega, by omega⟩
    · exact ⟨9, rfl, by omega, by omega⟩
    · exact ⟨_, rfl, by omega, by omega⟩
    · exact ⟨_, rfl, by omega, by omega⟩
  obtain ⟨m, rfl, hm0, hm1⟩ := hd
  have hmb : m.natAbs ≤ 2 ^ 200 := by omega
  have hmb2 : (2 * m + 1).natAbs < 2 ^ 201 := by omega
  obtain ⟨v, s2, e2, v0, v1, hs2⟩ := sp_draw (2 * m + 1) s1 hs1 (by omega) (Nat.lt_of_lt_of_le hmb2 (Nat.pow_le_pow_right (by decide) (by decide)))
  obtain ⟨t, s3, e3, t0, t1, hs3⟩ := sp_draw 30 s2 hs2 (by omega) (by exact Nat.lt_of_lt_of_le (show (30 : Int).natAbs < 2 ^ 5 by decide) (Nat.pow_le_pow_right (by decide) (by decide)))
  have hrl : (rgD 0 (1 + t)).length = (1 + t).toNat := by simp [rgD]
  obtain ⟨o', qs, s4, e4, l, w, hs4⟩ := q_loop m hm0 hmb (rgD 0 (1 + t)) .un [.int (v - m)] s3 hs3 (by rw [hrl]; simp; omega)
  obtain ⟨z, s5, e5, z0, z1, hs5⟩ := sp_draw m s4 hs4 (by omega) (big_lt hmb (by decide))
  rw [hrl] at l
  have mm : mulOk 2 m = true := mulOk_of (i := 2) (a := 2) (b := 201) (by decide) (by omega) (by decide) (by decide) (by decide)
  refine ⟨v - m, qs, 2 + z, s5, ?_, by omega, by omega, by omega, w, by omega, by omega, hs5⟩
  have a1 : (mSet 1 (mCall φ__law_pick (mCons (mVar 0) (mCons (mF (mLst (mCons (mC (.int 1)) (mCons (mC (.int 3)) (mCons (mC (.int 9)) (mCons (mOp powD (mC (.int 10)) (mC (.int 6))) (mCons (mOp powD (mC (.int 10)) (mC (.int 60))) mNil))))))) mNil)))) [.im (.dict []), .un, .un, .un] s = some (.nx [.im (.dict []), .im (.int m), .un, .un] s1) := by
    have k1 : mCons (mC (.int 1)) (mCons (mC (.int 3)) (mCons (mC (.int 9)) (mCons (mOp powD (mC (.int 10)) (mC (.int 6))) (mCons (mOp powD (mC (.int 10)) (mC (.int 60))) mNil)))) [.im (.dict []), .un, .un, .un] s = some ([.int 1, .int 3, .int 9, .int 1000000, .int 1000000000000000000000000000000000000000000000000000000000000], s) := by
      simp only [mCons, mop6, mop60, mC, mNil, Option.bind_some]
    have k2 := mCons_of _ (lst_of k1 (by simp)) (ms := mNil) (ds := []) (s2 := s) rfl
    have k3 := mCons_of (mVar 0) (s := s) (s1 := s) (d := .dict []) rfl k2
    simp only [mSet, mCall, k3, Option.bind_some, e1]
    rfl
  have a2 : (mSetO 2 (mLst (mCons (mOp subD (mCall φ__law_draw (mCons (mVar 0) (mCons (mOp addD (mOp mulD (mC (.int 2)) (mVar 1)) (mC (.int 1))) mNil))) (mVar 1)) mNil))) [.im (.dict []), .im (.int m), .un, .un] s1 = some (.nx [.im (.dict []), .im (.int m), .ow [.int (v - m)], .un] s2) := by
    simp [mFun, mSeq, mSet, mIte, mT, mOp, mVar, mC, mRet, mCall, mCons, mNil, mNext, mUn, mTup, mB, mAnd, mOr, mNot, tmAnd, tmOr, tmNot, mIf, negD, ev_eqI, ev_neI, ev_fr0, ev_fr1, ev_add, ev_sub, ev_gt, ev_lt, mSetO, mLst, ev_mul mm, e2]
  have a3 : mRg1 (mCons (mOp addD (mC (.int 1)) (mCall φ__law_draw (mCons (mVar 0) (mCons (mC (.int 30)) mNil)))) mNil) [.im (.dict []), .im (.int m), .ow [.int (v - m)], .un] s2 = some (rgD 0 (1 + t), s3) := by
    refine mRg1_of ?_ (rgOk_of (by omega) (by omega) (by omega) (by omega))
    simp [mFun, mSeq, mSet, mIte, mT, mOp, mVar, mC, mRet, mCall, mCons, mNil, mNext, mUn, mTup, mB, mAnd, mOr, mNot, tmAnd, tmOr, tmNot, mIf, negD, ev_eqI, ev_neI, ev_fr0, ev_fr1, ev_add, ev_sub, ev_gt, ev_lt, e3]
  have hql : qs.length ≤ 1000 := by omega
  refine mFun1_of (n := 3) ((mSeq_nx a1).trans ((mSeq_nx a2).trans ((mSeq_nx ((mFor_of a3).trans e4)).trans ?_)))
  have hq2 : qs.length ≤ 999998 := by omega
  simp [mFun, mSeq, mSet, mIte, mT, mOp, mVar, mC, mRet, mCall, mCons, mNil, mNext, mUn, mTup, mB, mAnd, mOr, mNot, tmAnd, tmOr, tmNot, mIf, negD, ev_eqI, ev_neI, ev_fr0, ev_fr1, ev_add, ev_sub, ev_gt, ev_lt, mFrz, mF, mCatL, mLst, e5, hq2]
end DL
set_option Elab.async false
set_option linter.all false
set_option maxRecDepth 100000
set_option maxHeartbeats 1000000
set_option exponentiation.threshold 10000
namespace DL
open PySem
/-! the mathematics, part 11: convergents, what they are -/
def det (p q : Int × Int) : Int := p.1 * q.2 - q.1 * p.2
theorem det_step (q : Int) (c l : Int × Int) : det (q * c.1 + l.1, q * c.2 + l.2) c = - det c l := by
  unfold det
  grind
theorem nb_det : ∀ (qs : List Int) (c l : Int × Int) (e : Int), det c l = e → 1 ≤ c.2 → 0 ≤ l.2 → (∀ q ∈ qs, 1 ≤ q) → ∀ (i : Nat) (h : i + 1 < (c :: nb c l qs).length), det (c :: nb c l qs)[i + 1] (c :: nb c l qs)[i] = (if i % 2 = 0 then -e else e) ∧ 1 ≤ (c :: nb c l qs)[i + 1].2 ∧ 1 ≤ (c :: nb c l qs)[i].2 := by
  intro qs
  induction qs with
  | nil => intro c l e _ _ _ _ i h; simp [nb] at h
  | cons q qs ih =>
    intro c l e he hc hl hq i h
    have h1 := hq q (List.mem_cons_self ..)
    have hp : c.2 ≤ q * c.2 := by
      have := Int.mul_le_mul_of_nonneg_right h1 (show 0 ≤ c.2 by omega)
      omega
    have hn : 1 ≤ q * c.2 + l.2 := by omega
    have hd := det_step q c l
    rw [he] at hd
    simp only [nb] at h ⊢
    cases i with
    | zero => exact ⟨by simpa using hd, hn, hc⟩
    | succ i =>
      have w := ih (q * c.1 + l.1, q * c.2 + l.2) c (-e) hd hn (by omega) (fun y m => hq y (List.mem_cons_of_mem _ m)) i (by simpa using h)
      simp only [List.getElem_cons_succ] at w ⊢
      refine ⟨?_, w.2⟩
      rw [w.1]
      split <;> split <;> omega
theorem nb_comb : ∀ (qs : List Int) (c l : Int × Int), (∀ q ∈ qs, 1 ≤ q) → ∀ p ∈ nb c l qs, ∃ a b : Int, 1 ≤ a ∧ 1 ≤ b ∧ p.1 = a * c.1 + b * l.1 ∧ p.2 = a * c.2 + b * l.2 := by
  intro qs
  induction qs with
  | nil => intro c l _ p h; simp [nb] at h
  | cons q qs ih =>
    intro c l hq p h
    have h1 := hq q (List.mem_cons_self ..)
    rcases List.mem_cons.mp h with rfl | h
    · exact ⟨q, 1, h1, by omega, by simp, by simp⟩
    · obtain ⟨a, b, ha, hb, e1, e2⟩ := ih _ c (fun y m => hq y (List.mem_cons_of_mem _ m)) p h
      have hp : a ≤ a * q := by
        have := Int.mul_le_mul_of_nonneg_left h1 (show 0 ≤ a by omega)
        omega
      refine ⟨a * q + b, a, by omega, ha, ?_, ?_⟩
      · rw [e1]; grind
      · rw [e2]; grind
theorem comb_det {c l p : Int × Int} {a b : Int} (e1 : p.1 = a * c.1 + b * l.1) (e2 : p.2 = a * c.2 + b * l.2) : det p c = - (b * det c l) := by
  unfold det
  rw [e1, e2]
  grind
theorem nb_size : ∀ (qs : List Int) (c l : Int × Int) (n : Nat), (∀ q ∈ qs, q.natAbs < 2 ^ 201) → c.1.natAbs < 2 ^ n → c.2.natAbs < 2 ^ n → l.1.natAbs < 2 ^ n → l.2.natAbs < 2 ^ n → ∀ p ∈ c :: nb c l qs, p.1.natAbs < 2 ^ (n + 202 * qs.length) ∧ p.2.natAbs < 2 ^ (n + 202 * qs.length) := by
  intro qs
  induction qs with
  | nil =>
    intro c l n _ c1 c2 _ _ p h
    simp [nb] at h
    subst h
    exact ⟨c1, c2⟩
  | cons q qs ih =>
    intro c l n hq c1 c2 l1 l2 p h
    have h1 := hq q (List.mem_cons_self ..)
    have up : ∀ {k m m' : Nat}, k < 2 ^ m → m ≤ m' → k < 2 ^ m' := fun h1 h2 => Nat.lt_of_lt_of_le h1 (Nat.pow_le_pow_right (by decide) h2)
    rcases List.mem_cons.mp h with rfl | h
    · exact ⟨up c1 (by omega), up c2 (by omega)⟩
    · have w := ih _ c (n + 202) (fun y m => hq y (List.mem_cons_of_mem _ m)) (step_size h1 c1 l1) (step_size h1 c2 l2) (up c1 (by omega)) (up c2 (by omega)) p h
      rw [List.length_cons, show n + 202 * (qs.length + 1) = n + 202 + 202 * qs.length by omega]
      exact w
def rt (p : Int × Int) : Rat := Rat.divInt p.1 p.2
theorem fr_rt {p : Int × Int} (h : Int.gcd p.1 p.2 = 1) (h1 : 1 ≤ p.2) : fr (rt p) = pr p ∧ (rt p).num = p.1 ∧ ((rt p).den : Int) = p.2 := by
  have e1 : (rt p).num = p.1 := by
    unfold rt
    rw [Rat.num_divInt, Int.gcd_comm, h, Int.sign_eq_one_of_pos (by omega)]
    simp
  have e2 : ((rt p).den : Int) = p.2 := by
    unfold rt
    rw [Rat.den_divInt, if_neg (by omega), Int.gcd_comm, h]
    simp
    omega
  exact ⟨by unfold fr; rw [e1, e2], e1, e2⟩
theorem gcd_of_det {p q : Int × Int} (h : det p q = 1 ∨ det p q = -1) : Int.gcd p.1 p.2 = 1 ∧ Int.gcd q.1 q.2 = 1 := by
  have k : ∀ {a b x y : Int}, a * y - x * b = 1 ∨ a * y - x * b = -1 → Int.gcd a b = 1 := by
    intro a b x y h
    have d1 : ((Int.gcd a b : Nat) : Int) ∣ a * y - x * b := Int.dvd_sub (Int.dvd_trans (Int.gcd_dvd_left ..) (Int.dvd_mul_right ..)) (Int.dvd_trans (Int.gcd_dvd_right ..) (Int.dvd_mul_left ..))
    have d2 : ((Int.gcd a b : Nat) : Int) ∣ 1 := by
      rcases h with h | h
      · rwa [h] at d1
      · rw [h] at d1
        exact (Int.dvd_neg).mp d1
    have d3 := Int.le_of_dvd (by decide) d2
    have d4 : Int.gcd a b ≠ 0 := by
      intro z
      rw [z] at d2
      simp at d2
    omega
  refine ⟨k h, ?_⟩
  unfold det at h
  refine k (x := p.1) (y := p.2) ?_
  have : q.1 * p.2 - p.1 * q.2 = -(p.1 * q.2 - q.1 * p.2) := by omega
  rw [this]
  omega
end DL
set_option Elab.async false
set_option linter.all false
set_option maxRecDepth 100000
set_option maxHeartbeats 1000000
set_option exponentiation.threshold 20000
namespace DL
open PySem
/-! the mathematics, part 12: neighbours -/
structure Nb (p q : Int × Int) (sg : Int) : Prop where
  d : det p q = sg
  u : sg = 1 ∨ sg = -1
  p2 : 1 ≤ p.2
  q2 : 1 ≤ q.2
  s1 : p.1.natAbs < 2 ^ 8000
  s2 : p.2.natAbs < 2 ^ 8000
  s3 : q.1.natAbs < 2 ^ 8000
  s4 : q.2.natAbs < 2 ^ 8000
variable {p q : Int × Int} {sg : Int}
theorem Nb.fp (h : Nb p q sg) : fr (rt p) = pr p ∧ (rt p).num = p.1 ∧ ((rt p).den : Int) = p.2 := fr_rt (gcd_of_det (by rw [h.d]; exact h.u)).1 h.p2
theorem Nb.fq (h : Nb p q sg) : fr (rt q) = pr q ∧ (rt q).num = q.1 ∧ ((rt q).den : Int) = q.2 := fr_rt (gcd_of_det (by rw [h.d]; exact h.u)).2 h.q2
theorem sz_rt (h : fr (rt p) = pr p ∧ (rt p).num = p.1 ∧ ((rt p).den : Int) = p.2) {n : Nat} (s1 : p.1.natAbs < 2 ^ n) (s2 : p.2.natAbs < 2 ^ n) : Sz n (rt p) := by
  refine ⟨by rw [h.2.1]; exact s1, ?_⟩
  rw [← h.2.2] at s2
  simpa using s2
theorem Nb.sp (h : Nb p q sg) : Sz 8000 (rt p) := sz_rt h.fp h.s1 h.s2
theorem Nb.sq (h : Nb p q sg) : Sz 8000 (rt q) := sz_rt h.fq h.s3 h.s4
theorem Nb.compared (h : Nb p q sg) (s : S) : φ_compared [pr p, pr q] s = some (.int sg, s) ∧ φ_compared [pr q, pr p] s = some (.int (0 - sg), s) ∧ φ_compared [pr p, pr p] s = some (.int 0, s) := by
  obtain ⟨a1, a2, a3⟩ := h.fp
  obtain ⟨b1, b2, b3⟩ := h.fq
  have w1 := sp_compared (rt p) (rt q) s h.sp h.sq (by decide) (by decide) (by decide)
  have w2 := sp_compared (rt q) (rt p) s h.sq h.sp (by decide) (by decide) (by decide)
  have w3 := sp_compared (rt p) (rt p) s h.sp h.sp (by decide) (by decide) (by decide)
  rw [a1, a2, a3, b1, b2, b3] at w1
  rw [a1, a2, a3, b1, b2, b3] at w2
  rw [a1, a2, a3] at w3
  have hd : p.1 * q.2 - q.1 * p.2 = sg := h.d
  have hd2 : q.1 * p.2 - p.1 * q.2 = - sg := by omega
  have hu := h.u
  rw [hd] at w1
  rw [hd2] at w2
  rw [Int.sub_self] at w3
  refine ⟨?_, ?_, w3⟩
  · rw [w1]; rcases hu with rfl | rfl <;> rfl
  · rw [w2]; rcases hu with rfl | rfl <;> rfl
theorem Nb.gap (h : Nb p q sg) : fr (rt (sg, p.2 * q.2)) = pr (sg, p.2 * q.2) ∧ (rt (sg, p.2 * q.2)).num = sg ∧ ((rt (sg, p.2 * q.2)).den : Int) = p.2 * q.2 := by
  refine fr_rt (p := (sg, p.2 * q.2)) ?_ ?_
  · rcases h.u with rfl | rfl
    · exact Int.one_gcd
    · show Int.gcd (-1) (p.2 * q.2) = 1
      rw [Int.neg_gcd]
      exact Int.one_gcd
  · have := Int.mul_le_mul h.p2 h.q2 (by decide) (by have := h.p2; omega)
    simpa using this
theorem Nb.gapS (h : Nb p q sg) : Sz 16000 (rt (sg, p.2 * q.2)) := by
  refine sz_rt h.gap ?_ ?_
  · rcases h.u with rfl | rfl
    · exact one_pw (by decide)
    · exact one_pw (n := 16000) (by decide)
  · show (p.2 * q.2).natAbs < 2 ^ 16000
    rw [Int.natAbs_mul, show (16000 : Nat) = 8000 + 8000 by rfl, Nat.pow_add]
    exact Nat.mul_lt_mul'' h.s2 h.s4
theorem Nb.sum (h : Nb p q sg) : rt q + rt (sg, p.2 * q.2) = rt p := by
  have hq : q.2 ≠ 0 := by have := h.q2; omega
  have hp : p.2 ≠ 0 := by have := h.p2; omega
  have hpq : p.2 * q.2 ≠ 0 := Int.mul_ne_zero hp hq
  unfold rt
  rw [Rat.divInt_add_divInt _ _ hq hpq, Rat.divInt_eq_divInt_iff (Int.mul_ne_zero hq hpq) hp]
  have hd : p.1 * q.2 - q.1 * p.2 = sg := h.d
  simp only
  rw [← hd]
  grind
theorem Nb.less (h : Nb p q sg) (s : S) : φ_less [pr p, pr q] s = some (pr (sg, p.2 * q.2), s) ∧ φ_added [pr q, pr (sg, p.2 * q.2)] s = some (pr p, s) := by
  have w1 := sp_less (rt p) (rt q) s h.sp h.sq (by decide) (by decide) (by decide)
  have w2 := sp_added (rt q) (rt (sg, p.2 * q.2)) s h.sq h.gapS (by decide) (by decide) (by decide)
  have e : rt p - rt q = rt (sg, p.2 * q.2) := by
    have := h.sum
    grind
  rw [h.fp.1, h.fq.1, e, h.gap.1] at w1
  rw [h.fq.1, h.gap.1, h.sum, h.fp.1] at w2
  exact ⟨w1, w2⟩
theorem fr_one : fr 1 = pr (1, 1) := rfl
theorem Nb.inv (h : Nb p q sg) (h0 : p.1 ≠ 0) (s : S) : ∃ d, φ_over [pr (1, 1), pr p] s = some (d, s) ∧ φ_times [d, pr p] s = some (pr (1, 1), s) := by
  have hz : rt p ≠ 0 := by
    intro z
    have := h.fp.2.1
    rw [z] at this
    exact h0 this.symm
  have s1 : Sz 8000 (1 : Rat) := ⟨one_pw (by decide), one_pw (n := 8000) (by decide)⟩
  have w1 := sp_over 1 (rt p) s s1 h.sp (by decide) (by decide) (by decide) hz
  have e : (1 : Rat) / rt p * rt p = 1 := by
    rw [Rat.div_def, Rat.one_mul, Rat.inv_mul_cancel _ hz]
  rw [h.fp.1, fr_one] at w1
  refine ⟨_, w1, ?_⟩
  have si : Sz 8000 ((1 : Rat) / rt p) := by
    rw [Rat.div_def, Rat.one_mul]
    have e1 := h.sp
    rw [Rat.inv_def]
    have hn : (rt p).num ≠ 0 := by rw [h.fp.2.1]; exact h0
    obtain ⟨z1, z2⟩ := sz_divInt (rt p).den (rt p).num hn
    exact ⟨Nat.lt_of_le_of_lt z1 (by simpa using e1.2), Nat.lt_of_le_of_lt z2 e1.1⟩
  have w2 := sp_times (1 / rt p) (rt p) s si h.sp (by decide) (by decide) (by decide)
  rw [e, h.fp.1, fr_one] at w2
  exact w2
end DL
set_option Elab.async false
set_option linter.all false
set_option maxRecDepth 100000
set_option maxHeartbeats 2000000
set_option exponentiation.threshold 20000
namespace DL
open PySem
/-! the mathematics, part 13: the loop of neighbours_right -/
noncomputable abbrev nrB : SM :=     (mSeq (mPar3 6 7 8 (mmE (mOp ixD (mVar 4) (mVar 2)) (mmE (mOp ixD (mVar 4) (mOp subD (mVar 2) (mC (.int 1)))) (mmE (mIf (mT (mOp eqD (mOp modD (mB intD (mCons (mVar 2) mNil)) (mC (.int 2))) (mC (.int 1)))) (mC (.int 1)) (mOp subD (mC (.int 0)) (mC (.int 1)))) mmNil))))
    (mSeq (mIte (tmOr (tmNot (mT (mCall (φ__law_same 12) (mCons (mCall φ_compared (mCons (mVar 6) (mCons (mVar 7) mNil))) (mCons (mVar 8) mNil))))) (tmOr (tmNot (mT (mCall (φ__law_same 12) (mCons (mCall φ_compared (mCons (mVar 7) (mCons (mVar 6) mNil))) (mCons (mOp subD (mC (.int 0)) (mVar 8)) mNil))))) (tmNot (mT (mCall (φ__law_same 12) (mCons (mCall φ_compared (mCons (mVar 6) (mCons (mVar 6) mNil))) (mCons (mC (.int 0)) mNil)))))))
    (mRet (mC (.bool false)))
    mNext)
    (mSeq (mIte (tmOr (tmNot (mT (mCall (φ__law_same 12) (mCons (mCall φ_less (mCons (mVar 6) (mCons (mVar 7) mNil))) (mCons (mTup (mCons (mVar 8) (mCons (mOp mulD (mOp ixD (mVar 6) (mC (.int 1))) (mOp ixD (mVar 7) (mC (.int 1)))) mNil))) mNil))))) (tmNot (mT (mCall (φ__law_same 12) (mCons (mCall φ_added (mCons (mVar 7) (mCons (mTup (mCons (mVar 8) (mCons (mOp mulD (mOp ixD (mVar 6) (mC (.int 1))) (mOp ixD (mVar 7) (mC (.int 1)))) mNil))) mNil))) (mCons (mVar 6) mNil))))))
    (mRet (mC (.bool false)))
    mNext)
    (mSeq (mIte (tmAnd (mT (mOp eqD (mVar 5) (mC (.int 0)))) (tmNot (mT (mCall (φ__law_same 12) (mCons (mCall φ_size_of (mCons (mTup (mCons (mOp subD (mC (.int 0)) (mVar 8)) (mCons (mOp mulD (mOp ixD (mVar 6) (mC (.int 1))) (mOp ixD (mVar 7) (mC (.int 1)))) mNil))) mNil)) (mCons (mTup (mCons (mC (.int 1)) (mCons (mOp mulD (mOp ixD (mVar 6) (mC (.int 1))) (mOp ixD (mVar 7) (mC (.int 1)))) mNil))) mNil))))))
    (mRet (mC (.bool false)))
    mNext)
    (mIte (tmAnd (mT (mOp neD (mOp ixD (mVar 6) (mC (.int 0))) (mC (.int 0)))) (tmNot (mT (mCall (φ__law_same 12) (mCons (mCall φ_times (mCons (mCall φ_over (mCons (mTup (mCons (mC (.int 1)) (mCons (mC (.int 1)) mNil))) (mCons (mVar 6) mNil))) (mCons (mVar 6) mNil))) (mCons (mTup (mCons (mC (.int 1)) (mCons (mC (.int 1)) mNil))) mNil))))))
    (mRet (mC (.bool false)))
    mNext)))))
theorem same12 (i j : Int) (s : S) : φ__law_same 12 [.int i, .int j] s = some (.bool (decide (i = j)), s) := sp_same_int 11 i j s
theorem same12p (a b c d : Int) (s : S) : φ__law_same 12 [.tuple [.int a, .int b], .tuple [.int c, .int d]] s = some (.bool (decide (a = c) && decide (b = d)), s) := sp_same_pair 10 a b c d s
theorem guard_of {t : EM Bool} {a m : SM} {env : Env} {s s1 : S} (h : t env s = some (false, s1)) : mSeq (mIte t a mNext) m env s = m env s1 := by
  simp [mSeq, mIte, h, mNext]
theorem guard_last {t : EM Bool} {a : SM} {env : Env} {s s1 : S} (h : t env s = some (false, s1)) : mIte t a mNext env s = some (.nx env s1) := by
  simp [mIte, h, mNext]
theorem nr_body {p q : Int × Int} {sg : Int} (h : Nb p q sg) (row : D) (last o1 o2 o3 : Sl) (xs : List D) (turn : Int) (i : Nat) (s : S) (hi : 1 ≤ i) (e1 : xs[i]? = some (pr p)) (e2 : xs[i - 1]? = some (pr q)) (hs : sg = if i % 2 = 1 then 1 else -1) :
    nrB [.im (.dict []), .im row, .im (.int i), last, .im (.list xs), .im (.int turn), o1, o2, o3] s = some (.nx [.im (.dict []), .im row, .im (.int i), last, .im (.list xs), .im (.int turn), .im (pr p), .im (pr q), .im (.int sg)] s) := by
  have l1 : i < xs.length := (List.getElem?_eq_some_iff.mp e1).1
  have x1 : ixD (.list xs) (.int i) = some (pr p) := by
    simp [ixD, L2.atI, L2.ixN, l1, e1]
    exact (List.getElem?_eq_some_iff.mp e1).2
  have x2 : ixD (.list xs) (.int ((i : Int) - 1)) = some (pr q) := by
    have l2 : i - 1 < xs.length := by omega
    have hi1 : ((i : Int) - 1) = ((i - 1 : Nat) : Int) := by omega
    rw [hi1]
    simp [ixD, L2.atI, L2.ixN, l2, e2]
    exact (List.getElem?_eq_some_iff.mp e2).2
  have m1 : mulOk p.2 q.2 = true := mulOk_of h.s2 h.s4 (by decide) (by decide) (by decide)
  obtain ⟨c1, c2, c3⟩ := h.compared s
  obtain ⟨d1, d2⟩ := h.less s
  have i0 : ∀ z : Int × Int, ixD (pr z) (.int 0) = some (.int z.1) := fun z => by simp [ixD, L2.atI, L2.ixN]
  have i1 : ∀ z : Int × Int, ixD (pr z) (.int 1) = some (.int z.2) := fun z => by simp [ixD, L2.atI, L2.ixN]
  have a1 : mPar3 6 7 8 (mmE (mOp ixD (mVar 4) (mVar 2)) (mmE (mOp ixD (mVar 4) (mOp subD (mVar 2) (mC (.int 1)))) (mmE (mIf (mT (mOp eqD (mOp modD (mB intD (mCons (mVar 2) mNil)) (mC (.int 2))) (mC (.int 1)))) (mC (.int 1)) (mOp subD (mC (.int 0)) (mC (.int 1)))) mmNil))) [.im (.dict []), .im row, .im (.int i), last, .im (.list xs), .im (.int turn), o1, o2, o3] s = some (.nx [.im (.dict []), .im row, .im (.int i), last, .im (.list xs), .im (.int turn), .im (pr p), .im (pr q), .im (.int sg)] s) := by
    have hf : (i : Int).fmod 2 = ((i % 2 : Nat) : Int) := by rw [Int.fmod_eq_emod_of_nonneg _ (by decide)]; omega
    by_cases hm : i % 2 = 1
    · rw [if_pos hm] at hs
      subst hs
      rw [hm] at hf
      simp [mFun, mSeq, mSet, mIte, mT, mOp, mVar, mC, mRet, mCall, mCons, mNil, mNext, mUn, mTup, mB, mAnd, mOr, mNot, tmAnd, tmOr, tmNot, mIf, negD, ev_eqI, ev_neI, ev_fr0, ev_fr1, ev_add, ev_sub, ev_gt, ev_lt, mPar3, mmE, mmNil, x1, x2, modD, iiD, intD, hf]
    · rw [if_neg hm] at hs
      subst hs
      have hm0 : i % 2 = 0 := by omega
      rw [hm0] at hf
      simp [mFun, mSeq, mSet, mIte, mT, mOp, mVar, mC, mRet, mCall, mCons, mNil, mNext, mUn, mTup, mB, mAnd, mOr, mNot, tmAnd, tmOr, tmNot, mIf, negD, ev_eqI, ev_neI, ev_fr0, ev_fr1, ev_add, ev_sub, ev_gt, ev_lt, mPar3, mmE, mmNil, x1, x2, modD, iiD, intD, hf]
  refine (mSeq_nx a1).trans ?_
  have z1 : φ_size_of [pr (0 - sg, p.2 * q.2)] s = some (pr (1, p.2 * q.2), s) := by
    have h2 : Nb q p (0 - sg) := ⟨by have := h.d; unfold det at *; omega, by rcases h.u with rfl | rfl <;> simp, h.q2, h.p2, h.s3, h.s4, h.s1, h.s2⟩
    have w := h2.gap
    have w2 := sp_size_of (rt (0 - sg, q.2 * p.2)) s
    rw [w.1, w.2.1, w.2.2] at w2
    rw [Int.mul_comm p.2 q.2, w2]
    rcases h.u with rfl | rfl <;> rfl
  refine (guard_of (s1 := s) ?_).trans ((guard_of (s1 := s) ?_).trans ((guard_of (s1 := s) ?_).trans (guard_last ?_)))
  · simp [mFun, mSeq, mSet, mIte, mT, mOp, mVar, mC, mRet, mCall, mCons, mNil, mNext, mUn, mTup, mB, mAnd, mOr, mNot, tmAnd, tmOr, tmNot, mIf, negD, ev_eqI, ev_neI, ev_fr0, ev_fr1, ev_add, ev_sub, ev_gt, ev_lt, c1, c2, c3, same12]
  · simp only [pr] at d1 d2 i1 ⊢
    simp [mFun, mSeq, mSet, mIte, mT, mOp, mVar, mC, mRet, mCall, mCons, mNil, mNext, mUn, mTup, mB, mAnd, mOr, mNot, tmAnd, tmOr, tmNot, mIf, negD, ev_eqI, ev_neI, ev_fr0, ev_fr1, ev_add, ev_sub, ev_gt, ev_lt, ixD, L2.atI, L2.ixN, ev_mul m1, d1, d2, same12p]
  · by_cases ht : turn = 0
    · simp only [pr, Int.zero_sub] at z1 ⊢
      simp [mFun, mSeq, mSet, mIte, mT, mOp, mVar, mC, mRet, mCall, mCons, mNil, mNext, mUn, mTup, mB, mAnd, mOr, mNot, tmAnd, tmOr, tmNot, mIf, negD, ev_eqI, ev_neI, ev_fr0, ev_fr1, ev_add, ev_sub, ev_gt, ev_lt, ixD, L2.atI, L2.ixN, ev_mul m1, ht, same12p, z1]
    · simp [mFun, mSeq, mSet, mIte, mT, mOp, mVar, mC, mRet, mCall, mCons, mNil, mNext, mUn, mTup, mB, mAnd, mOr, mNot, tmAnd, tmOr, tmNot, mIf, negD, ev_eqI, ev_neI, ev_fr0, ev_fr1, ev_add, ev_sub, ev_gt, ev_lt, ht]
  · by_cases hz : p.1 = 0
    · simp [mFun, mSeq, mSet, mIte, mT, mOp, mVar, mC, mRet, mCall, mCons, mNil, mNext, mUn, mTup, mB, mAnd, mOr, mNot, tmAnd, tmOr, tmNot, mIf, negD, ev_eqI, ev_neI, ev_fr0, ev_fr1, ev_add, ev_sub, ev_gt, ev_lt, i0, hz]
    · obtain ⟨d, w1, w2⟩ := h.inv hz s
      simp only [pr] at w1 w2 ⊢
      simp [mFun, mSeq, mSet, mIte, mT, mOp, mVar, mC, mRet, mCall, mCons, mNil, mNext, mUn, mTup, mB, mAnd, mOr, mNot, tmAnd, tmOr, tmNot, mIf, negD, ev_eqI, ev_neI, ev_fr0, ev_fr1, ev_add, ev_sub, ev_gt, ev_lt, ixD, L2.atI, L2.ixN, hz, w1, w2, same12p]
end DL
set_option Elab.async false
set_option linter.all false
set_option maxRecDepth 100000
set_option maxHeartbeats 2000000
set_option exponentiation.threshold 20000
namespace DL
open PySem
/-! the mathematics, part 14: all neighbours -/
def AllNb (cs : List (Int × Int)) : Prop := ∀ (i : Nat) (h : i + 1 < cs.length), Nb cs[i + 1] cs[i] (if (i + 1) % 2 = 1 then 1 else -1)
theorem nr_loop (cs : List (Int × Int)) (H : AllNb cs) (row : D) (last : Sl) (turn : Int) (s : S) : ∀ (is : List Nat) (t o1 o2 o3 : Sl), (∀ i ∈ is, 1 ≤ i ∧ i < cs.length) →
    ∃ t' o1' o2' o3' : Sl, forL (gN 2) nrB (is.map fun (i : Nat) => (PyData.int (i : Int))) [.im (.dict []), .im row, t, last, .im (.list (cs.map pr)), .im (.int turn), o1, o2, o3] s = some (.nx [.im (.dict []), .im row, t', last, .im (.list (cs.map pr)), .im (.int turn), o1', o2', o3'] s) := by
  intro is
  induction is with
  | nil => intro t o1 o2 o3 _; exact ⟨t, o1, o2, o3, rfl⟩
  | cons i is ih =>
    intro t o1 o2 o3 hi
    obtain ⟨h1, h2⟩ := hi i (List.mem_cons_self ..)
    have hb := H (i - 1) (by omega)
    have e1 : i - 1 + 1 = i := by omega
    simp only [e1] at hb
    have w := nr_body hb row last o1 o2 o3 (cs.map pr) turn i s h1 (by simp [h2]) (by simp [show i - 1 < cs.length by omega]) rfl
    obtain ⟨t', a, b, c, e⟩ := ih (.im (.int i)) (.im (pr cs[i])) (.im (pr cs[i - 1])) (.im (.int (if i % 2 = 1 then 1 else -1))) (fun y m => hi y (List.mem_cons_of_mem _ m))
    refine ⟨t', a, b, c, ?_⟩
    simp only [List.map_cons, forL, gN, List.set_cons_succ, List.set_cons_zero, Option.bind_some, w]
    exact e
theorem cv_all (r : Int) (qs : List Int) (hr : r.natAbs < 2 ^ 201) (hq : ∀ q ∈ qs, 1 ≤ q ∧ q.natAbs < 2 ^ 201) (hl : qs.length ≤ 38) : AllNb (cv r qs) := by
  intro i h
  have hd := nb_det qs (r, 1) (1, 0) (-1) (by simp [det]) (by simp) (by simp) (fun q m => (hq q m).1) i h
  have hz := nb_size qs (r, 1) (1, 0) 201 (fun q m => (hq q m).2) hr (one_pw (by decide)) (one_pw (by decide)) (Nat.two_pow_pos _)
  have up : ∀ {k : Nat}, k < 2 ^ (201 + 202 * qs.length) → k < 2 ^ 8000 := fun h1 => Nat.lt_of_lt_of_le h1 (Nat.pow_le_pow_right (by decide) (by omega))
  have z1 := hz (cv r qs)[i + 1] (List.getElem_mem h)
  have h' : i < (cv r qs).length := by omega
  have z2 := hz (cv r qs)[i] (List.getElem_mem h')
  refine ⟨?_, ?_, hd.2.1, hd.2.2, up z1.1, up z1.2, up z2.1, up z2.2⟩
  · refine hd.1.trans ?_
    by_cases hm : i % 2 = 0
    · have h2 : (i + 1) % 2 = 1 := by omega
      rw [if_pos hm, if_pos h2]; rfl
    · have h2 : ¬ (i + 1) % 2 = 1 := by omega
      rw [if_neg hm, if_neg h2]
  · split <;> simp
end DL
set_option Elab.async false
set_option linter.all false
set_option maxRecDepth 100000
set_option maxHeartbeats 2000000
set_option exponentiation.threshold 20000
namespace DL
open PySem
/-! the mathematics, part 15: the greatest and the least convergent -/
theorem rt_le {p q : Int × Int} (h1 : fr (rt p) = pr p ∧ (rt p).num = p.1 ∧ ((rt p).den : Int) = p.2) (h2 : fr (rt q) = pr q ∧ (rt q).num = q.1 ∧ ((rt q).den : Int) = q.2) (h : det p q ≤ 0) : rt p ≤ rt q := by
  have e : det p q = p.1 * q.2 - q.1 * p.2 := rfl
  rw [Rat.le_iff, h1.2.1, h1.2.2, h2.2.1, h2.2.2]
  omega
theorem cv_least (r : Int) (qs : List Int) (hq : ∀ q ∈ qs, 1 ≤ q) : ∀ p ∈ cv r qs, det (r, 1) p ≤ 0 := by
  intro p hp
  rcases List.mem_cons.mp hp with rfl | hp
  · simp [det]
  · obtain ⟨a, b, ha, hb, e1, e2⟩ := nb_comb qs (r, 1) (1, 0) hq p hp
    have w := comb_det e1 e2
    simp [det] at w ⊢
    omega
theorem cv_greatest (r q : Int) (qs : List Int) (hq : ∀ y ∈ q :: qs, 1 ≤ y) : ∀ p ∈ cv r (q :: qs), det p (q * r + 1, q * 1 + 0) ≤ 0 := by
  intro p hp
  rcases List.mem_cons.mp hp with rfl | hp
  · simp [det]
    have := Int.mul_comm r q
    omega
  · rcases List.mem_cons.mp hp with rfl | hp
    · simp [det]
    · obtain ⟨a, b, ha, hb, e1, e2⟩ := nb_comb qs (q * r + 1, q * 1 + 0) (r, 1) (fun y m => hq y (List.mem_cons_of_mem _ m)) p hp
      have w := comb_det e1 e2
      have d1 : det (q * r + 1, q * 1 + 0) (r, 1) = 1 := by
        simp [det]
        have := Int.mul_comm r q
        omega
      rw [d1] at w
      omega
theorem AllNb.fr {cs : List (Int × Int)} (H : AllNb cs) (h2 : 2 ≤ cs.length) : ∀ p ∈ cs, (fr (rt p) = pr p ∧ (rt p).num = p.1 ∧ ((rt p).den : Int) = p.2) ∧ 1 ≤ p.2 ∧ Sz 8000 (rt p) := by
  intro p hp
  obtain ⟨i, hi, rfl⟩ := List.getElem_of_mem hp
  by_cases h : i + 1 < cs.length
  · have w := H i h
    exact ⟨w.fq, w.q2, w.sq⟩
  · have w := H (i - 1) (by omega)
    have e : i - 1 + 1 = i := by omega
    simp only [e] at w
    exact ⟨w.fp, w.p2, w.sp⟩
theorem map_fr {cs : List (Int × Int)} (h : ∀ p ∈ cs, DL.fr (rt p) = pr p) : (cs.map rt).map DL.fr = cs.map pr := by
  rw [List.map_map]
  exact List.map_congr_left fun p hp => h p hp
end DL
set_option Elab.async false
set_option linter.all false
set_option maxRecDepth 100000
set_option maxHeartbeats 2000000
set_option exponentiation.threshold 20000
namespace DL
open PySem
/-! the mathematics, part 16: greatest_of and least_of a turned row; the tail of a fraction -/
def unfr : D → Rat
  | .tuple [.int a, .int b] => Rat.divInt a b
  | _ => 0
theorem unfr_fr (x : Rat) : unfr (fr x) = x := by
  show Rat.divInt x.num x.den = x
  exact Rat.num_divInt_den x
theorem perm_fr {zs : List D} {xs : List Rat} (p : zs.Perm (xs.map fr)) : ∃ ys : List Rat, zs = ys.map fr ∧ ys.Perm xs := by
  refine ⟨zs.map unfr, ?_, ?_⟩
  · rw [List.map_map]
    have e : ∀ z ∈ zs, (fr ∘ unfr) z = z := by
      intro z hz
      obtain ⟨x, _, rfl⟩ := List.mem_map.mp (p.mem_iff.mp hz)
      show fr (unfr (fr x)) = fr x
      rw [unfr_fr]
    exact ((List.map_congr_left e).trans (List.map_id' zs)).symm
  · have w := p.map unfr
    rw [List.map_map] at w
    have e : xs.map (unfr ∘ fr) = xs := (List.map_congr_left fun x _ => unfr_fr x).trans (List.map_id' xs)
    rwa [e] at w
theorem sp_gt (r q : Int) (qs : List Int) (hr : r.natAbs < 2 ^ 201) (hq : ∀ y ∈ q :: qs, 1 ≤ y ∧ y.natAbs < 2 ^ 201) (hl : (q :: qs).length ≤ 38) (s : S) (hs : SI s) :
    ∃ (d : D) (s' : S), φ__law_turned [.dict [], .list ((cv r (q :: qs)).map pr)] s = some (d, s') ∧ SI s' ∧ (∀ s2, φ_greatest_of [d] s2 = some (pr (q * r + 1, q * 1 + 0), s2)) ∧ (∀ s2, φ_least_of [d] s2 = some (pr (r, 1), s2)) := by
  have H := cv_all r (q :: qs) hr hq hl
  have h2 : 2 ≤ (cv r (q :: qs)).length := by simp [cv, nb]
  have F := H.fr h2
  have nl : ∀ (qs : List Int) (c l : Int × Int), (nb c l qs).length = qs.length := by
    intro qs
    induction qs with
    | nil => intro c l; rfl
    | cons q qs ih => intro c l; simp [nb, ih]
  have hlen : (cv r (q :: qs)).length ≤ 1000 := by
    simp [cv, nl] at hl ⊢
    omega
  obtain ⟨d, zs, s', e, rw1, p, hs'⟩ := sp_turned ((cv r (q :: qs)).map pr) s hs (by simpa using hlen)
  rw [← map_fr fun p hp => (F p hp).1.1] at p
  obtain ⟨ys, rfl, py⟩ := perm_fr p
  have m0 : (r, 1) ∈ cv r (q :: qs) := List.mem_cons_self ..
  have m1 : (q * r + 1, q * 1 + 0) ∈ cv r (q :: qs) := List.mem_cons_of_mem _ (List.mem_cons_self ..)
  have hy : ∀ x ∈ ys, ∃ p ∈ cv r (q :: qs), x = rt p := fun x m => by
    obtain ⟨p, hp, e⟩ := List.mem_map.mp (py.mem_iff.mp m)
    exact ⟨p, hp, e.symm⟩
  have hz : ∀ x ∈ ys, Sz 8000 x := fun x m => by
    obtain ⟨p, hp, rfl⟩ := hy x m
    exact (F p hp).2.2
  refine ⟨d, s', e, hs', fun s2 => ?_, fun s2 => ?_⟩
  · rw [← (F _ m1).1.1]
    refine sp_greatest (by decide) (by decide) rw1 _ (py.mem_iff.mpr (List.mem_map.mpr ⟨_, m1, rfl⟩)) (fun x m => ?_) hz s2
    obtain ⟨p, hp, rfl⟩ := hy x m
    exact rt_le (F p hp).1 (F _ m1).1 (cv_greatest r q qs (fun y m => (hq y m).1) p hp)
  · rw [← (F _ m0).1.1]
    refine sp_least (by decide) (by decide) rw1 _ (py.mem_iff.mpr (List.mem_map.mpr ⟨_, m0, rfl⟩)) (fun x m => ?_) hz s2
    obtain ⟨p, hp, rfl⟩ := hy x m
    exact rt_le (F _ m0).1 (F p hp).1 (cv_least r (q :: qs) (fun y m => (hq y m).1) p hp)
end DL
set_option Elab.async false
set_option linter.all false
set_option maxRecDepth 100000
set_option maxHeartbeats 2000000
set_option exponentiation.threshold 20000
namespace DL
open PySem
/-! the mathematics, part 17: the last convergent, from the front -/
def mv (r : Int) (p : Int × Int) : Int × Int := (r * p.1 + p.2, p.1)
theorem nb_lin (r : Int) : ∀ (qs : List Int) (c l : Int × Int), nb (mv r c) (mv r l) qs = (nb c l qs).map (mv r) := by
  intro qs
  induction qs with
  | nil => intro c l; rfl
  | cons q qs ih =>
    intro c l
    have e : (q * (mv r c).1 + (mv r l).1, q * (mv r c).2 + (mv r l).2) = mv r (q * c.1 + l.1, q * c.2 + l.2) := by
      simp [mv]
      grind
    simp only [nb, List.map_cons, e, ih]
theorem cv_cons (r q : Int) (qs : List Int) : cv r (q :: qs) = (r, 1) :: (cv q qs).map (mv r) := by
  have w := nb_lin r qs (q, 1) (1, 0)
  have e1 : mv r (q, 1) = (q * r + 1, q * 1 + 0) := by simp [mv]; exact Int.mul_comm _ _
  have e2 : mv r (1, 0) = (r, 1) := by simp [mv]
  rw [e1, e2] at w
  simp only [cv, nb, List.map_cons, e1]
  rw [w]
/-- the last convergent -/
def lst : Int → List Int → Int × Int
  | r, [] => (r, 1)
  | r, q :: qs => mv r (lst q qs)
theorem cv_last (r : Int) (qs : List Int) : (cv r qs)[(cv r qs).length - 1]? = some (lst r qs) := by
  induction qs generalizing r with
  | nil => rfl
  | cons q qs ih =>
    have w := ih q
    have hl : 1 ≤ (cv q qs).length := by simp [cv]
    rw [cv_cons]
    simp only [List.length_cons, List.length_map, Nat.add_sub_cancel]
    rw [show (cv q qs).length = ((cv q qs).length - 1) + 1 by omega, List.getElem?_cons_succ, List.getElem?_map, w]
    rfl
theorem lst_big (q : Int) (qs : List Int) (z : Int) (h : ∀ y ∈ q :: qs, 1 ≤ y) (hz : 2 ≤ z) : 1 ≤ (lst q (qs ++ [z])).2 ∧ (lst q (qs ++ [z])).2 < (lst q (qs ++ [z])).1 := by
  have h1 := h q (List.mem_cons_self ..)
  induction qs generalizing q with
  | nil =>
    simp [lst, mv]
    have := Int.mul_le_mul_of_nonneg_right h1 (show 0 ≤ z by omega)
    omega
  | cons y qs ih =>
    obtain ⟨w1, w2⟩ := ih y (fun x m => h x (List.mem_cons_of_mem _ m)) (h y (by simp))
    simp only [List.cons_append, lst, mv]
    have := Int.mul_le_mul_of_nonneg_right h1 (show 0 ≤ (lst y (qs ++ [z])).1 by omega)
    omega
end DL
set_option Elab.async false
set_option linter.all false
set_option maxRecDepth 100000
set_option maxHeartbeats 2000000
set_option exponentiation.threshold 20000
namespace DL
open PySem
/-! the mathematics, part 18: _law_back -/
structure Good (p : Int × Int) : Prop where
  g : Int.gcd p.1 p.2 = 1
  u : 1 ≤ p.2
  s1 : p.1.natAbs < 2 ^ 8000
  s2 : p.2.natAbs < 2 ^ 8000
theorem Good.f {p : Int × Int} (h : Good p) : fr (rt p) = pr p ∧ (rt p).num = p.1 ∧ ((rt p).den : Int) = p.2 := fr_rt h.g h.u
theorem Good.sz {p : Int × Int} (h : Good p) : Sz 8000 (rt p) := sz_rt h.f h.s1 h.s2
theorem floor_one (r : Int) : (rt (r, 1)).floor = r := by
  have g := fr_rt (p := (r, 1)) (by simp) (by simp)
  rw [Rat.floor_def, g.2.1, g.2.2]
  simp
theorem mv_rt (r : Int) {p : Int × Int} (h : 1 ≤ p.1) : rt (mv r p) - rt (r, 1) = rt (p.2, p.1) := by
  have h0 : p.1 ≠ 0 := by omega
  have e : rt (p.2, p.1) + rt (r, 1) = rt (mv r p) := by
    unfold rt mv
    simp only
    rw [Rat.divInt_add_divInt _ _ h0 (by decide)]
    congr 1
    · have := Int.mul_comm r p.1
      omega
    · omega
  grind
theorem inv_rt {p : Int × Int} : (1 : Rat) / rt (p.2, p.1) = rt p := by
  unfold rt
  rw [Rat.div_def, Rat.one_mul, Rat.inv_divInt]
theorem floor_mv (r : Int) {p : Int × Int} (g : fr (rt (mv r p)) = pr (mv r p) ∧ (rt (mv r p)).num = (mv r p).1 ∧ ((rt (mv r p)).den : Int) = (mv r p).2) (h1 : 0 ≤ p.2) (h2 : p.2 < p.1) : (rt (mv r p)).floor = r := by
  have e : (rt (mv r p)).floor = (rt (mv r p)).num / (rt (mv r p)).den := Rat.floor_def ..
  rw [e, g.2.1, g.2.2]
  simp only [mv]
  rw [Int.add_comm, Int.add_mul_ediv_right _ _ (by omega), Int.ediv_eq_zero_of_lt h1 h2]
  omega
noncomputable abbrev bB : SM := (mSeq (mIte (tmNot (mT (mCall (φ__law_same 12) (mCons (mCall φ_floor_of (mCons (mVar 1) mNil)) (mCons (mVar 3) mNil)))))
    (mRet (mC (.bool false)))
    mNext)
    (mSeq (mSet 1 (mCall φ_less (mCons (mVar 1) (mCons (mTup (mCons (mVar 3) (mCons (mC (.int 1)) mNil))) mNil))))
    (mSeq (mIte (mT (mOp eqD (mVar 2) (mOp subD (mB lenD (mCons (mVar 0) mNil)) (mC (.int 1)))))
    (mRet (mCall (φ__law_same 12) (mCons (mVar 1) (mCons (mTup (mCons (mC (.int 0)) (mCons (mC (.int 1)) mNil))) mNil))))
    mNext)
    (mSet 1 (mCall φ_over (mCons (mTup (mCons (mC (.int 1)) (mCons (mC (.int 1)) mNil))) (mCons (mVar 1) mNil)))))))
theorem good_one {r : Int} (hr : r.natAbs < 2 ^ 8000) : Good (r, 1) := ⟨by simp, by simp, hr, one_pw (n := 8000) (by decide)⟩
theorem back_last (r : Int) (hr : r.natAbs < 2 ^ 8000) (row : List D) (i : Nat) (hl : row.length = i + 1) (o1 o2 : Sl) (s : S) :
    forL (gT 2 (gsCons (gN 2) (gsCons (gN 3) gsNil))) bB [.tuple [.int i, .int r]] [.im (.list row), .im (pr (r, 1)), o1, o2] s = some (.rt (.bool true) s) := by
  have g := good_one hr
  have w1 := sp_floor_of (rt (r, 1)) s (Nat.lt_of_lt_of_le g.sz.2 (Nat.pow_le_pow_right (by decide) (by decide)))
  have w2 := sp_less (rt (r, 1)) (rt (r, 1)) s g.sz g.sz (by decide) (by decide) (by decide)
  have e0 : rt (r, 1) - rt (r, 1) = 0 := by grind
  have f0 : fr 0 = pr (0, 1) := rfl
  rw [e0, f0, g.f.1] at w2
  rw [g.f.1, floor_one] at w1
  simp only [pr] at w1 w2 ⊢
  simp [mFun, mSeq, mSet, mIte, mT, mOp, mVar, mC, mRet, mCall, mCons, mNil, mNext, mUn, mTup, mB, mAnd, mOr, mNot, tmAnd, tmOr, tmNot, mIf, negD, ev_eqI, ev_neI, ev_fr0, ev_fr1, ev_add, ev_sub, ev_gt, ev_lt, forL, gT, gsCons, gsNil, gN, bB, w1, w2, same12, same12p, lenD, hl]
theorem back_step (r : Int) (p : Int × Int) (g : Good (mv r p)) (gp : Good p) (hr : r.natAbs < 2 ^ 8000) (h1 : p.2 < p.1) (row : List D) (i : Nat) (hl : i + 1 < row.length) (ds : List D) (o1 o2 : Sl) (s : S) :
    ∃ o1' o2' : Sl, forL (gT 2 (gsCons (gN 2) (gsCons (gN 3) gsNil))) bB (.tuple [.int i, .int r] :: ds) [.im (.list row), .im (pr (mv r p)), o1, o2] s = forL (gT 2 (gsCons (gN 2) (gsCons (gN 3) gsNil))) bB ds [.im (.list row), .im (pr p), o1', o2'] s := by
  refine ⟨.im (.int i), .im (.int r), ?_⟩
  have u := gp.u
  have g1 := good_one hr
  have gi : Good (p.2, p.1) := ⟨by rw [Int.gcd_comm]; exact gp.g, by show 1 ≤ p.1; omega, gp.s2, gp.s1⟩
  have w1 := sp_floor_of (rt (mv r p)) s (Nat.lt_of_lt_of_le g.sz.2 (Nat.pow_le_pow_right (by decide) (by decide)))
  have w2 := sp_less (rt (mv r p)) (rt (r, 1)) s g.sz g1.sz (by decide) (by decide) (by decide)
  have s1 : Sz 8000 (1 : Rat) := ⟨one_pw (by decide), one_pw (n := 8000) (by decide)⟩
  have hz : rt (p.2, p.1) ≠ 0 := by
    intro z
    have w := gi.f.2.1
    rw [z] at w
    have w' : (0 : Int) = p.2 := w
    omega
  have w3 := sp_over 1 (rt (p.2, p.1)) s s1 gi.sz (by decide) (by decide) (by decide) hz
  rw [mv_rt r (by omega), gi.f.1, g.f.1, g1.f.1] at w2
  rw [inv_rt, fr_one, gi.f.1, gp.f.1] at w3
  rw [g.f.1, floor_mv r g.f (by omega) h1] at w1
  have hne : ¬ (i : Int) = (row.length : Int) - 1 := by omega
  simp only [pr] at w1 w2 w3 ⊢
  simp [mFun, mSeq, mSet, mIte, mT, mOp, mVar, mC, mRet, mCall, mCons, mNil, mNext, mUn, mTup, mB, mAnd, mOr, mNot, tmAnd, tmOr, tmNot, mIf, negD, ev_eqI, ev_neI, ev_fr0, ev_fr1, ev_add, ev_sub, ev_gt, ev_lt, forL, gT, gsCons, gsNil, gN, bB, w1, w2, w3, same12, lenD, hne]
end DL
set_option Elab.async false
set_option linter.all false
set_option maxRecDepth 100000
set_option maxHeartbeats 2000000
set_option exponentiation.threshold 20000
namespace DL
open PySem
/-! the mathematics, part 19: _law_back, whole -/
theorem gcd_mv (r : Int) (p : Int × Int) : Int.gcd (mv r p).1 (mv r p).2 = Int.gcd p.1 p.2 := by
  simp only [mv]
  rw [Int.gcd_comm p.1 p.2]
  simp
theorem lst_gcd (r : Int) (qs : List Int) : Int.gcd (lst r qs).1 (lst r qs).2 = 1 := by
  induction qs generalizing r with
  | nil => simp [lst]
  | cons q qs ih =>
    rw [lst, gcd_mv]
    exact ih q
theorem good_lst (r : Int) (qs : List Int) (hr : r.natAbs < 2 ^ 201) (hq : ∀ q ∈ qs, q.natAbs < 2 ^ 201) (hl : qs.length ≤ 38) (h1 : 1 ≤ (lst r qs).2) : Good (lst r qs) := by
  have m : lst r qs ∈ cv r qs := List.mem_of_getElem? (cv_last r qs)
  have z := nb_size qs (r, 1) (1, 0) 201 hq hr (one_pw (by decide)) (one_pw (by decide)) (Nat.two_pow_pos _) _ m
  have up : ∀ {k : Nat}, k < 2 ^ (201 + 202 * qs.length) → k < 2 ^ 8000 := fun h1 => Nat.lt_of_lt_of_le h1 (Nat.pow_le_pow_right (by decide) (by omega))
  exact ⟨lst_gcd r qs, h1, up z.1, up z.2⟩
theorem back_loop (z : Int) (hz : 2 ≤ z) (hzb : z.natAbs < 2 ^ 201) (row : List D) (s : S) : ∀ (qs : List Int) (r : Int) (i : Nat) (o1 o2 : Sl), r.natAbs < 2 ^ 201 → (∀ q ∈ qs, 1 ≤ q ∧ q.natAbs < 2 ^ 201) → qs.length ≤ 35 → row.length = i + qs.length + 2 →
    forL (gT 2 (gsCons (gN 2) (gsCons (gN 3) gsNil))) bB (enD i (.int r :: (qs ++ [z]).map .int)) [.im (.list row), .im (pr (lst r (qs ++ [z]))), o1, o2] s = some (.rt (.bool true) s) := by
  have up : ∀ {k : Nat}, k < 2 ^ 201 → k < 2 ^ 8000 := fun h1 => Nat.lt_of_lt_of_le h1 (Nat.pow_le_pow_right (by decide) (by decide))
  intro qs
  induction qs with
  | nil =>
    intro r i o1 o2 hr hq hl hrow
    have gz : Good (lst z []) := good_one (up hzb)
    have u : 1 ≤ (lst r ([] ++ [z])).2 := by simp [lst, mv]; omega
    have g := good_lst r ([] ++ [z]) hr (by simpa using hzb) (by simp) u
    obtain ⟨a, b, e⟩ := back_step r (lst z []) g gz (up hr) (by simp [lst]; omega) row i (by simp at hrow; omega) (enD (i + 1) [.int z]) o1 o2 s
    refine e.trans ?_
    exact back_last z (up hzb) row (i + 1) (by simp at hrow; omega) a b s
  | cons q qs ih =>
    intro r i o1 o2 hr hq hl hrow
    simp at hl hrow
    have hb := lst_big q qs z (fun y m => (hq y m).1) hz
    have hqz : ∀ y ∈ qs ++ [z], y.natAbs < 2 ^ 201 := by
      intro y m
      rcases List.mem_append.mp m with m | m
      · exact (hq y (List.mem_cons_of_mem _ m)).2
      · simp at m; subst m; exact hzb
    have gp := good_lst q (qs ++ [z]) (hq q (List.mem_cons_self ..)).2 hqz (by simp; omega) hb.1
    have u : 1 ≤ (lst r (q :: (qs ++ [z]))).2 := by
      show 1 ≤ (lst q (qs ++ [z])).1
      omega
    have g := good_lst r (q :: (qs ++ [z])) hr (by
      intro y m
      rcases List.mem_cons.mp m with rfl | m
      · exact (hq _ (List.mem_cons_self ..)).2
      · exact hqz y m) (by simp; omega) u
    obtain ⟨a, b, e⟩ := back_step r (lst q (qs ++ [z])) g gp (up hr) hb.2 row i (by omega) (enD (i + 1) (.int q :: (qs ++ [z]).map .int)) o1 o2 s
    refine e.trans ?_
    exact ih q (i + 1) a b (hq q (List.mem_cons_self ..)).2 (fun y m => hq y (List.mem_cons_of_mem _ m)) (by omega) (by omega)
theorem sp_back (r z : Int) (qs : List Int) (hr : r.natAbs < 2 ^ 201) (hz : 2 ≤ z) (hzb : z.natAbs < 2 ^ 201) (hq : ∀ q ∈ qs, 1 ≤ q ∧ q.natAbs < 2 ^ 201) (hl : qs.length ≤ 35) (s : S) :
    φ__law_back [.list (.int r :: (qs ++ [z]).map .int), pr (lst r (qs ++ [z]))] s = some (.bool true, s) := by
  have e := back_loop z hz hzb (.int r :: (qs ++ [z]).map .int) s qs r 0 .un .un hr hq hl (by simp)
  have a : mEnum (mCons (mVar 0) mNil) [.im (.list (.int r :: (qs ++ [z]).map .int)), .im (pr (lst r (qs ++ [z]))), .un, .un] s = some (enD 0 (.int r :: (qs ++ [z]).map .int), s) := by
    simp [mEnum, mCons, mVar, mNil]
  exact mFun2_of (n := 2) (mSeq_rt ((mFor_of a).trans e))
end DL
set_option Elab.async false
set_option linter.all false
set_option maxRecDepth 100000
set_option maxHeartbeats 2000000
set_option exponentiation.threshold 20000
namespace DL
open PySem
/-! the mathematics, part 20: neighbours_right -/
theorem sp_floor_neg (r : Int) (p : Int × Int) (g : Good (mv r p)) (h1 : 1 ≤ p.2) (h2 : p.2 < p.1) (s : S) : φ_floor_of [.tuple [.int (0 - (mv r p).1), .int (mv r p).2]] s = some (.int (0 - r - 1), s) := by
  have w := sp_floor_of (-(rt (mv r p))) s (Nat.lt_of_lt_of_le g.sz.2 (Nat.pow_le_pow_right (by decide) (by decide)))
  have e : fr (-(rt (mv r p))) = .tuple [.int (0 - (mv r p).1), .int (mv r p).2] := by
    show PyData.tuple [.int (-(rt (mv r p))).num, .int ((rt (mv r p)).den : Int)] = _
    rw [Rat.neg_num, g.f.2.1, g.f.2.2, Int.zero_sub]
  rw [e] at w
  rw [w, Rat.floor_def]
  have e2 : ((-(rt (mv r p))).den : Int) = (mv r p).2 := g.f.2.2
  rw [e2, Rat.neg_num, g.f.2.1]
  simp only [mv]
  have e3 : -(r * p.1 + p.2) = (p.1 - p.2) + (-r - 1) * p.1 := by grind
  rw [e3, Int.add_mul_ediv_right _ _ (by omega), Int.ediv_eq_zero_of_lt (by omega) (by omega)]
  simp
theorem nb_len : ∀ (qs : List Int) (c l : Int × Int), (nb c l qs).length = qs.length := by
  intro qs
  induction qs with
  | nil => intro c l; rfl
  | cons q qs ih => intro c l; simp [nb, ih]
theorem rg_nat (n : Nat) : rgD 1 (n : Int) = ((List.range (n - 1)).map (1 + ·)).map fun (i : Nat) => (PyData.int (i : Int)) := by
  unfold rgD
  rw [List.map_map, show ((n : Int) - 1).toNat = n - 1 by omega]
  refine List.map_congr_left fun i _ => ?_
  simp
theorem nrr_set (row : D) (t' b1 b2 b3 : Sl) (cs : List D) (t : Int) (x : D) (s : S) (xl : ixD (.list cs) (.int ((cs.length : Int) - 1)) = some x) : mSet 3 (mOp ixD (mVar 4) (mOp subD (mB lenD (mCons (mVar 4) mNil)) (mC (.int 1)))) [.im (.dict []), .im row, t', .un, .im (.list cs), .im (.int t), b1, b2, b3] s = some (.nx [.im (.dict []), .im row, t', .im x, .im (.list cs), .im (.int t), b1, b2, b3] s) := by
  simp [mFun, mSeq, mSet, mIte, mT, mOp, mVar, mC, mRet, mCall, mCons, mNil, mNext, mUn, mTup, mB, mAnd, mOr, mNot, tmAnd, tmOr, tmNot, mIf, negD, ev_eqI, ev_neI, ev_fr0, ev_fr1, ev_add, ev_sub, ev_gt, ev_lt, lenD, xl]
theorem callK_of {φ : Fn} {mk : EM (List D)} {env : Env} {s s1 : S} {d : D} {x : D × S} (h1 : mk env s = some ([d], s1)) (h2 : φ [d] s1 = some x) : mCallK 0 1 gIn φ mNil mk env s = some x := by
  simp [mCallK, mNil, h1, gIn, h2]
theorem nrr_g1 (F G : Fn) (env : Env) (cs : List D) (d1 : D) (x : Int × Int) (s1 s2 : S) (e0 : env[0]? = some (.im (.dict []))) (e4 : env[4]? = some (.im (.list cs))) (g1 : F [.dict [], .list cs] s1 = some (d1, s2)) (q1 : G [d1] s2 = some (pr x, s2)) (x1 : ixD (.list cs) (.int 1) = some (pr x)) :
    (tmNot (mT (mCall (φ__law_same 12) (mCons (mCall G (mCons (mCall F (mCons (mVar 0) (mCons (mVar 4) mNil))) mNil)) (mCons (mOp ixD (mVar 4) (mC (.int 1))) mNil))))) env s1 = some (false, s2) := by
  simp only [pr] at q1 x1
  simp [mFun, mSeq, mSet, mIte, mT, mOp, mVar, mC, mRet, mCall, mCons, mNil, mNext, mUn, mTup, mB, mAnd, mOr, mNot, tmAnd, tmOr, tmNot, mIf, negD, ev_eqI, ev_neI, ev_fr0, ev_fr1, ev_add, ev_sub, ev_gt, ev_lt, e0, e4, g1, q1, x1, same12p]
theorem nrr_g2 (F G : Fn) (env : Env) (cs : List D) (d1 : D) (x : Int × Int) (s1 s2 : S) (e0 : env[0]? = some (.im (.dict []))) (e4 : env[4]? = some (.im (.list cs))) (g1 : F [.dict [], .list cs] s1 = some (d1, s2)) (q1 : G [d1] s2 = some (pr x, s2)) (x1 : ixD (.list cs) (.int 0) = some (pr x)) :
    (tmNot (mT (mCall (φ__law_same 12) (mCons (mCallK 0 1 gIn G mNil (mCons (mCall F (mCons (mVar 0) (mCons (mVar 4) mNil))) mNil)) (mCons (mOp ixD (mVar 4) (mC (.int 0))) mNil))))) env s1 = some (false, s2) := by
  simp only [pr] at q1 x1
  simp [mFun, mSeq, mSet, mIte, mT, mOp, mVar, mC, mRet, mCall, mCons, mNil, mNext, mUn, mTup, mB, mAnd, mOr, mNot, tmAnd, tmOr, tmNot, mIf, negD, ev_eqI, ev_neI, ev_fr0, ev_fr1, ev_add, ev_sub, ev_gt, ev_lt, e0, e4, g1, q1, x1, same12p, mCallK, gIn]
theorem tmOr_ff {a b : EM Bool} {env : Env} {s s1 s2 : S} (h1 : a env s = some (false, s1)) (h2 : b env s1 = some (false, s2)) : tmOr a b env s = some (false, s2) := by
  simp [tmOr, h1, h2]
end DL
set_option Elab.async false
set_option linter.all false
set_option maxRecDepth 100000
set_option maxHeartbeats 2000000
set_option exponentiation.threshold 20000
namespace DL
open PySem
/-! the mathematics, part 21: neighbours_right, whole -/
theorem nrr_end (B Fl : Fn) (env : Env) (row : D) (p : Int × Int) (r : Int) (s : S) (e1 : env[1]? = some (.im row)) (e3 : env[3]? = some (.im (pr p))) (bk : B [row, pr p] s = some (.bool true, s)) (fl : Fl [.tuple [.int (0 - p.1), .int p.2]] s = some (.int (0 - r - 1), s)) (r0 : ixD row (.int 0) = some (.int r)) :
    (mRet (mAnd (mCall B (mCons (mVar 1) (mCons (mVar 3) mNil))) (mCall (φ__law_same 12) (mCons (mCall Fl (mCons (mTup (mCons (mOp subD (mC (.int 0)) (mOp ixD (mVar 3) (mC (.int 0)))) (mCons (mOp ixD (mVar 3) (mC (.int 1))) mNil))) mNil)) (mCons (mOp subD (mOp subD (mC (.int 0)) (mOp ixD (mVar 1) (mC (.int 0)))) (mC (.int 1))) mNil))))) env s = some (.rt (.bool true) s) := by
  have i0 : ixD (pr p) (.int 0) = some (.int p.1) := by simp [ixD, L2.atI, L2.ixN]
  have i1 : ixD (pr p) (.int 1) = some (.int p.2) := by simp [ixD, L2.atI, L2.ixN]
  simp only [pr, Int.zero_sub] at bk fl e3 i0 i1
  simp [mFun, mSeq, mSet, mIte, mT, mOp, mVar, mC, mRet, mCall, mCons, mNil, mNext, mUn, mTup, mB, mAnd, mOr, mNot, tmAnd, tmOr, tmNot, mIf, negD, ev_eqI, ev_neI, ev_fr0, ev_fr1, ev_add, ev_sub, ev_gt, ev_lt, e1, e3, bk, fl, r0, i0, i1, same12]
theorem sp_neighbours_right (r z q : Int) (qs : List Int) (hr : r.natAbs < 2 ^ 201) (hz : 2 ≤ z) (hzb : z.natAbs < 2 ^ 201) (hq : ∀ y ∈ q :: qs, 1 ≤ y ∧ y.natAbs < 2 ^ 201) (hl : (q :: qs).length ≤ 30) (s : S) (hs : SI s) :
    ∃ s', φ__law_neighbours_right [.dict [], .list (.int r :: ((q :: qs) ++ [z]).map .int)] s = some (.bool true, s') ∧ SI s' := by
  have hq2 : ∀ y ∈ (q :: qs) ++ [z], 1 ≤ y ∧ y.natAbs < 2 ^ 201 := by
    intro y m
    rcases List.mem_append.mp m with m | m
    · exact hq y m
    · simp at m; subst m; exact ⟨by omega, hzb⟩
  have hl2 : ((q :: qs) ++ [z]).length ≤ 38 := by simp at hl ⊢; omega
  obtain ⟨t, s1, e1, t0, t1, hs1⟩ := sp_draw 2 s hs (by omega) sz_two
  have n1 := sp_neighbours r ((q :: qs) ++ [z]) s hr (fun y m => (hq2 y m).2) (by omega)
  have H := cv_all r ((q :: qs) ++ [z]) hr hq2 hl2
  obtain ⟨d1, s2, g1, hs2, g2, g3⟩ := sp_gt r q (qs ++ [z]) hr hq2 hl2 s1 hs1
  obtain ⟨d2, s3, k1, hs3, k2, k3⟩ := sp_gt r q (qs ++ [z]) hr hq2 hl2 s2 hs2
  have hb := lst_big q qs z (fun y m => (hq y m).1) hz
  have bk := sp_back r z (q :: qs) hr hz hzb hq (by simp at hl ⊢; omega) s3
  have gl := good_lst r ((q :: qs) ++ [z]) hr (fun y m => (hq2 y m).2) hl2 (by show 1 ≤ (lst q (qs ++ [z])).1; omega)
  have fl := sp_floor_neg r (lst q (qs ++ [z])) gl hb.1 hb.2 s3
  have hlen : (cv r ((q :: qs) ++ [z])).length = (q :: qs).length + 2 := by simp [cv, nb_len]
  have cl := cv_last r ((q :: qs) ++ [z])
  refine ⟨s3, ?_, hs3⟩
  have a1 : (mPar2 4 5 (mmE (mCall φ__law_neighbours (mCons (mVar 1) mNil)) (mmE (mCall φ__law_draw (mCons (mVar 0) (mCons (mC (.int 2)) mNil))) mmNil))) [.im (.dict []), .im (.list (.int r :: ((q :: qs) ++ [z]).map .int)), .un, .un, .un, .un, .un, .un, .un] s = some (.nx [.im (.dict []), .im (.list (.int r :: ((q :: qs) ++ [z]).map .int)), .un, .un, .im (.list ((cv r ((q :: qs) ++ [z])).map pr)), .im (.int t), .un, .un, .un] s1) := by
    simp only [mPar2, mmE, mmNil, mCall, mCons, mVar, mNil, mC, List.getElem?_cons_succ, List.getElem?_cons_zero, Option.bind_some, n1, e1, List.set_cons_succ, List.set_cons_zero]
  have hln : (cv r ((q :: qs) ++ [z])).length ≤ 1000 := by rw [hlen]; simp at hl ⊢; omega
  have cc0 : (cv r ((q :: qs) ++ [z]))[0]? = some (r, 1) := rfl
  have cc1 : (cv r ((q :: qs) ++ [z]))[1]? = some (q * r + 1, q * 1 + 0) := rfl
  have r0 : ixD (.list (.int r :: ((q :: qs) ++ [z]).map .int)) (.int 0) = some (.int r) := row_first (Row.l)
  rw [← List.cons_append] at g1 k1
  generalize hcs : cv r ((q :: qs) ++ [z]) = cs at *
  generalize hrow : PyData.list (.int r :: ((q :: qs) ++ [z]).map .int) = row at *
  have a2 : mRg2 (mCons (mC (.int 1)) (mCons (mB lenD (mCons (mVar 4) mNil)) mNil)) [.im (.dict []), .im row, .un, .un, .im (.list (cs.map pr)), .im (.int t), .un, .un, .un] s1 = some (rgD 1 (cs.length : Int), s1) := by
    refine mRg2_of ?_ (rgOk_of (by omega) (by omega) (by omega) (by omega))
    simp [mFun, mSeq, mSet, mIte, mT, mOp, mVar, mC, mRet, mCall, mCons, mNil, mNext, mUn, mTup, mB, mAnd, mOr, mNot, tmAnd, tmOr, tmNot, mIf, negD, ev_eqI, ev_neI, ev_fr0, ev_fr1, ev_add, ev_sub, ev_gt, ev_lt, lenD]
  rw [rg_nat] at a2
  obtain ⟨t', b1, b2, b3, e⟩ := nr_loop cs H row .un t s1 ((List.range (cs.length - 1)).map (1 + ·)) .un .un .un .un (by
    intro i hi
    obtain ⟨j, hj, rfl⟩ := List.mem_map.mp hi
    have := List.mem_range.mp hj
    omega)
  refine mFun2_of (n := 7) ((mSeq_nx a1).trans ((mSeq_nx ((mFor_of a2).trans e)).trans ?_))
  have ixl : ∀ (k : Nat) (p : Int × Int), cs[k]? = some p → ixD (.list (cs.map pr)) (.int k) = some (pr p) := by
    intro k p hk
    have hlt := (List.getElem?_eq_some_iff.mp hk).1
    have hv := (List.getElem?_eq_some_iff.mp hk).2
    simp [ixD, L2.atI, L2.ixN, hlt, hv]
  have x0 : ixD (.list (cs.map pr)) (.int 0) = some (pr (r, 1)) := ixl 0 _ cc0
  have x1 : ixD (.list (cs.map pr)) (.int 1) = some (pr (q * r + 1, q * 1 + 0)) := ixl 1 _ cc1
  have xl := ixl (cs.length - 1) _ cl
  have hcl : ((cs.length - 1 : Nat) : Int) = (cs.length : Int) - 1 := by omega
  rw [hcl] at xl
  refine (guard_of (s1 := s3) (tmOr_ff (nrr_g1 _ _ _ _ _ _ _ _ rfl rfl g1 (g2 s2) x1) (nrr_g2 _ _ _ _ _ _ _ _ rfl rfl k1 (k3 s3) x0))).trans ?_
  refine (mSeq_nx (nrr_set row t' b1 b2 b3 (cs.map pr) t _ s3 (by simpa using xl))).trans ?_
  exact nrr_end _ _ _ row _ r s3 rfl rfl bk fl r0
end DL
set_option Elab.async false
set_option linter.all false
set_option maxRecDepth 100000
set_option maxHeartbeats 2000000
set_option exponentiation.threshold 20000
namespace DL
open PySem
/-! the mathematics, part 22: _law_frac -/
theorem gcd_le9 {t b : Int} (hb : b ≠ 0) (h : b.natAbs < 2 ^ 9000) : ((Int.gcd t b : Nat) : Int).natAbs < 2 ^ 9000 ∧ 0 < Int.gcd t b := by
  have h1 : Int.gcd t b ∣ b.natAbs := Int.gcd_dvd_natAbs_right ..
  have h2 := Nat.le_of_dvd (by omega) h1
  refine ⟨by rw [Int.natAbs_natCast]; exact Nat.lt_of_le_of_lt h2 h, ?_⟩
  exact Nat.pos_of_dvd_of_pos h1 (by omega)
theorem sp_law_frac (t b : Int) (s : S) (hb : b ≠ 0) (h : b.natAbs < 2 ^ 9000) : φ__law_frac [.int t, .int b] s = some (fr (Rat.divInt t b), s) := by
  obtain ⟨g1, g2⟩ := gcd_le9 (t := t) hb h
  have e1 := low_num t b hb
  have e2 := low_den t b hb
  have gg := sp_law_gcd (t.natAbs : Int) (b.natAbs : Int) s (by omega) (by omega)
  have ge : Int.gcd (t.natAbs : Int) (b.natAbs : Int) = Int.gcd t b := by simp [Int.gcd]
  rw [ge] at gg
  have mg : ∀ z : Int, z.natAbs = 1 → mulOk (Int.gcd t b : Int) z = true := fun z hz => mulOk_of (a := 9000) (b := 1) g1 (by rw [hz]; decide) (by decide) (by decide) (by decide)
  generalize hG : (Int.gcd t b : Int) = G at *
  have gp : 0 < G := by omega
  have ab : ∀ i : Int, absD [.int i] = some (.int (i.natAbs : Int)) := fun i => by simp [absD]; omega
  have a1 : (mSet 2 (mOp mulD (mCall φ__law_gcd (mCons (mB absD (mCons (mVar 0) mNil)) (mCons (mB absD (mCons (mVar 1) mNil)) mNil))) (mIf (mT (mOp gtD (mVar 1) (mC (.int 0)))) (mC (.int 1)) (mOp subD (mC (.int 0)) (mC (.int 1)))))) [.im (.int t), .im (.int b), .un] s = some (.nx [.im (.int t), .im (.int b), .im (.int (if b < 0 then -G else G))] s) := by
    by_cases hs : b < 0
    · have hs2 : ¬ 0 < b := by omega
      simp [mFun, mSeq, mSet, mIte, mT, mOp, mVar, mC, mRet, mCall, mCons, mNil, mNext, mUn, mTup, mB, mAnd, mOr, mNot, tmAnd, tmOr, tmNot, mIf, negD, ev_eqI, ev_neI, ev_fr0, ev_fr1, ev_add, ev_sub, ev_gt, ev_lt, ab, gg, hs, hs2, ev_mul (mg (-1) rfl)]
      try omega
    · have hs2 : 0 < b := by omega
      simp [mFun, mSeq, mSet, mIte, mT, mOp, mVar, mC, mRet, mCall, mCons, mNil, mNext, mUn, mTup, mB, mAnd, mOr, mNot, tmAnd, tmOr, tmNot, mIf, negD, ev_eqI, ev_neI, ev_fr0, ev_fr1, ev_add, ev_sub, ev_gt, ev_lt, ab, gg, hs, hs2, ev_mul (mg 1 rfl)]
  have hc0 : (if b < 0 then -G else G) ≠ 0 := by split <;> omega
  have hcb : (if b < 0 then -G else G).natAbs < 2 ^ 9000 := by
    split
    · rw [Int.natAbs_neg]; exact g1
    · exact g1
  refine mFun2_of (n := 1) ((mSeq_nx a1).trans ?_)
  generalize (if b < 0 then -G else G) = C at *
  simp [mFun, mSeq, mSet, mIte, mT, mOp, mVar, mC, mRet, mCall, mCons, mNil, mNext, mUn, mTup, mB, mAnd, mOr, mNot, tmAnd, tmOr, tmNot, mIf, negD, ev_eqI, ev_neI, ev_fr0, ev_fr1, ev_add, ev_sub, ev_gt, ev_lt, ev_div (i := t) hc0 hcb, ev_div (i := b) hc0 hcb, fr, e1, e2]
end DL
set_option Elab.async false
set_option linter.all false
set_option maxRecDepth 100000
set_option maxHeartbeats 2000000
set_option exponentiation.threshold 20000
namespace DL
open PySem
/-! the mathematics, part 23: ways to put meanings together; down_right -/
theorem c_var {i : Nat} {env : Env} {s : S} {d : D} (h : env[i]? = some (.im d)) : mVar i env s = some (d, s) := by
  simp [mVar, h]
theorem c_con (d : D) (env : Env) (s : S) : mC d env s = some (d, s) := rfl
theorem c_i (i : Int) {env : Env} {s : S} : mC (.int i) env s = some (.int i, s) := rfl
theorem c_nil (env : Env) (s : S) : mNil env s = some ([], s) := rfl
theorem c_op {f : D → D → Option D} {a b : EM D} {env : Env} {s s1 s2 : S} {d e g : D} (h1 : a env s = some (d, s1)) (h2 : b env s1 = some (e, s2)) (h3 : f d e = some g) : mOp f a b env s = some (g, s2) := by
  simp [mOp, h1, h2, h3]
theorem c_bi {f : List D → Option D} {a : EM (List D)} {env : Env} {s s1 : S} {ds : List D} {g : D} (h1 : a env s = some (ds, s1)) (h3 : f ds = some g) : mB f a env s = some (g, s1) := by
  simp [mB, h1, h3]
theorem c_call {φ : Fn} {a : EM (List D)} {env : Env} {s s1 : S} {ds : List D} {x : D × S} (h1 : a env s = some (ds, s1)) (h3 : φ ds s1 = some x) : mCall φ a env s = some x := by
  simp [mCall, h1, h3]
theorem c_one {m : EM D} {env : Env} {s s1 : S} {d : D} (h : m env s = some (d, s1)) : mCons m mNil env s = some ([d], s1) := mCons_of m h rfl
theorem c_two {m n : EM D} {env : Env} {s s1 s2 : S} {d e : D} (h : m env s = some (d, s1)) (h2 : n env s1 = some (e, s2)) : mCons m (mCons n mNil) env s = some ([d, e], s2) := mCons_of m h (c_one h2)
theorem c_tup {ms : EM (List D)} {env : Env} {s s1 : S} {ds : List D} (h : ms env s = some (ds, s1)) (hl : ds.length ≤ 1000) : mTup ms env s = some (.tuple ds, s1) := by
  simp [mTup, h, hl]
theorem c_set {i : Nat} {m : EM D} {env : Env} {s s1 : S} {d : D} (h : m env s = some (d, s1)) : mSet i m env s = some (.nx (env.set i (.im d)) s1) := by
  simp [mSet, h]
theorem c_par2 {i j : Nat} {m n : EM D} {env : Env} {s s1 s2 : S} {d e : D} (h : m env s = some (d, s1)) (h2 : n env s1 = some (e, s2)) : mPar2 i j (mmE m (mmE n mmNil)) env s = some (.nx ((env.set i (.im d)).set j (.im e)) s2) := by
  simp [mPar2, mmE, mmNil, h, h2]
theorem c_t {m : EM D} {env : Env} {s s1 : S} {b : Bool} (h : m env s = some (.bool b, s1)) : mT m env s = some (b, s1) := by
  simp [mT, h]
theorem c_not {t : EM Bool} {env : Env} {s s1 : S} {b : Bool} (h : t env s = some (b, s1)) : tmNot t env s = some (!b, s1) := by
  simp [tmNot, h]
theorem c_ret {m : EM D} {env : Env} {s s1 : S} {d : D} (h : m env s = some (d, s1)) : mRet m env s = some (.rt d s1) := by
  simp [mRet, h]
theorem c_and {a b : EM D} {env : Env} {s s1 : S} {x : D × S} (h : a env s = some (.bool true, s1)) (h2 : b env s1 = some x) : mAnd a b env s = some x := by
  simp [mAnd, h, h2]
theorem c_add {a b : EM D} {env : Env} {s s1 s2 : S} {i j : Int} (h1 : a env s = some (.int i, s1)) (h2 : b env s1 = some (.int j, s2)) : mOp addD a b env s = some (.int (i + j), s2) := c_op h1 h2 (ev_add i j)
theorem c_sub {a b : EM D} {env : Env} {s s1 s2 : S} {i j : Int} (h1 : a env s = some (.int i, s1)) (h2 : b env s1 = some (.int j, s2)) : mOp subD a b env s = some (.int (i - j), s2) := c_op h1 h2 (ev_sub i j)
theorem c_mul {a b : EM D} {env : Env} {s s1 s2 : S} {i j : Int} (h1 : a env s = some (.int i, s1)) (h2 : b env s1 = some (.int j, s2)) (h : mulOk i j = true) : mOp mulD a b env s = some (.int (i * j), s2) := c_op h1 h2 (ev_mul h)
theorem c_pow {a b c : Int} {env : Env} {s : S} (h : powD (.int a) (.int b) = some (.int c)) : mOp powD (mC (.int a)) (mC (.int b)) env s = some (.int c, s) := c_op rfl rfl h
theorem c_pick {ms : EM (List D)} {env : Env} {s s1 : S} {ds : List D} (e0 : env[0]? = some (.im (.dict []))) (h : ms env s = some (ds, s1)) (hs : SI s1) (h0 : ds ≠ []) (hl : ds.length ≤ 1000) :
    ∃ (d : D) (s' : S), mCall φ__law_pick (mCons (mVar 0) (mCons (mF (mLst ms)) mNil)) env s = some (d, s') ∧ d ∈ ds ∧ SI s' := by
  obtain ⟨d, s', e, m, hs'⟩ := sp_pick ds s1 hs h0 hl
  exact ⟨d, s', c_call (c_two (c_var e0) (lst_of h hl)) e, m, hs'⟩
theorem c_draw {m : EM D} {env : Env} {s s1 : S} {k : Int} (e0 : env[0]? = some (.im (.dict []))) (h : m env s = some (.int k, s1)) (hs : SI s1) (hk : 0 < k) (hb : k.natAbs < 2 ^ 9000) :
    ∃ (v : Int) (s' : S), mCall φ__law_draw (mCons (mVar 0) (mCons m mNil)) env s = some (.int v, s') ∧ 0 ≤ v ∧ v < k ∧ SI s' := by
  obtain ⟨v, s', e, v0, v1, hs'⟩ := sp_draw k s1 hs hk hb
  exact ⟨v, s', c_call (c_two (c_var e0) h) e, v0, v1, hs'⟩
theorem sz_of {k : Int} {n : Nat} (h : k.natAbs < 2 ^ n) (hn : n ≤ 9000) : k.natAbs < 2 ^ 9000 := Nat.lt_of_lt_of_le h (Nat.pow_le_pow_right (by decide) hn)
theorem ev_pow20 : powD (.int 10) (.int 20) = some (.int 100000000000000000000) := ev_pow (i := 10) (j := 20) (by omega) (by omega) ten_lt
theorem ev_pow30 : powD (.int 10) (.int 30) = some (.int 1000000000000000000000000000000) := ev_pow (i := 10) (j := 30) (by omega) (by omega) ten_lt
theorem ev_pow40 : powD (.int 10) (.int 40) = some (.int 10000000000000000000000000000000000000000) := ev_pow (i := 10) (j := 40) (by omega) (by omega) ten_lt
theorem ev_pow9 : powD (.int 10) (.int 9) = some (.int 1000000000) := ev_pow (i := 10) (j := 9) (by omega) (by omega) ten_lt
theorem same12f (x y : Rat) (s : S) : φ__law_same 12 [fr x, fr y] s = some (.bool (decide (x.num = y.num) && decide ((x.den : Int) = y.den)), s) := same12p _ _ _ _ s
theorem same12r (x : Rat) (s : S) : φ__law_same 12 [fr x, fr x] s = some (.bool true, s) := by rw [same12f]; simp
theorem div_cross {a b c d : Int} (hb : 0 < b) (hd : 0 < d) (h : a * d = c * b) : a / b = c / d := by
  rw [← Int.mul_ediv_mul_of_pos_left a b hd, ← Int.mul_ediv_mul_of_pos_left c d hb, h, Int.mul_comm b d]
theorem cross_divInt (p q : Int) (hq : q ≠ 0) : (Rat.divInt p q).num * q = p * (Rat.divInt p q).den := by
  have h : Rat.divInt (Rat.divInt p q).num (Rat.divInt p q).den = Rat.divInt p q := Rat.num_divInt_den _
  exact (Rat.divInt_eq_divInt_iff (den_ne _) hq).mp h
theorem den_pos (x : Rat) : (0 : Int) < x.den := by
  have := x.den_pos
  omega
theorem floor_mul (p q m : Int) (hq : 0 < q) : (Rat.divInt p q).num * m / (Rat.divInt p q).den = p * m / q := by
  refine div_cross (den_pos _) hq ?_
  have := cross_divInt p q (by omega)
  grind
theorem floor_divInt (p q : Int) (hq : 0 < q) : (Rat.divInt p q).floor = p / q := by
  have := floor_mul p q 1 hq
  rw [Int.mul_one, Int.mul_one] at this
  rw [Rat.floor_def, this]
theorem c_same {a b : EM D} {env : Env} {s s1 s2 : S} {x : Rat} (h1 : a env s = some (fr x, s1)) (h2 : b env s1 = some (fr x, s2)) : mCall (φ__law_same 12) (mCons a (mCons b mNil)) env s = some (.bool true, s2) := c_call (c_two h1 h2) (same12r x s2)
theorem c_sameI {a b : EM D} {env : Env} {s s1 s2 : S} {i : Int} (h1 : a env s = some (.int i, s1)) (h2 : b env s1 = some (.int i, s2)) : mCall (φ__law_same 12) (mCons a (mCons b mNil)) env s = some (.bool true, s2) := c_call (c_two h1 h2) (by rw [same12]; simp)
theorem c_nt {m : EM D} {env : Env} {s s1 : S} (h : m env s = some (.bool true, s1)) : tmNot (mT m) env s = some (false, s1) := c_not (c_t h)
theorem sp_down_right (s : S) (hs : SI s) : ∃ s', φ__law_down_right [.dict []] s = some (.bool true, s') ∧ SI s' := by
  have e0 : ∀ xs : Env, (Sl.im (.dict []) :: xs)[0]? = some (.im (.dict [])) := fun _ => rfl
  have b1000 : ∀ {z : Int}, z.natAbs < 2 ^ 400 → z.natAbs < 2 ^ 9000 := fun h => sz_of h (by decide)
  obtain ⟨d1, s1, k1, m1, hs1⟩ := c_pick (ds := [.int 1, .int 10, .int 1000000, .int 1000000000000000000000000000000]) (e0 [.un, .un, .un, .un, .un]) (mCons_of _ (c_i 1) (mCons_of _ (c_i 10) (mCons_of _ (c_pow ev_pow6) (c_one (c_pow ev_pow30))))) hs (by simp) (by simp)
  have hd1 : ∃ m : Int, d1 = .int m ∧ 1 ≤ m ∧ m ≤ 1000000000000000000000000000000 := by
    simp only [List.mem_cons, List.not_mem_nil, or_false] at m1
    rcases m1 with rfl | rfl | rfl | rfl <;> exact ⟨_, rfl, by omega, by omega⟩
  obtain ⟨m0, rfl, hm1, hm2⟩ := hd1
  obtain ⟨v0, s2, k2, v00, v01, hs2⟩ := c_draw (e0 _) k1 hs1 (by omega) (b1000 (by omega))
  obtain ⟨v1, s3, k3, v10, v11, hs3⟩ := c_draw (m := mOp mulD (mC (.int 2)) (mOp powD (mC (.int 10)) (mC (.int 20)))) (k := 200000000000000000000) (e0 [.un, .un, .un, .un, .un]) (c_mul (i := 2) rfl (c_pow ev_pow20) (mulOk_of (a := 2) (b := 100) (by decide) (by omega) (by decide) (by decide) (by decide))) hs2 (by omega) (b1000 (by omega))
  have a1 := c_par2 (i := 4) (j := 5) (c_add (c_i 1) k2) (c_sub k3 (c_pow ev_pow20))
  generalize hm : (1 : Int) + v0 = m at a1
  generalize hk : v1 - 100000000000000000000 = k at a1
  obtain ⟨d2, s4, k4, m2, hs4⟩ := c_pick (ds := [.int 1, .int 9, .int 1000000000000000000000000000000]) (e0 [.un, .un, .un, .im (.int m), .im (.int k)]) (mCons_of _ (c_i 1) (mCons_of _ (c_i 9) (c_one (c_pow ev_pow30)))) hs3 (by simp) (by simp)
  have hd2 : ∃ m : Int, d2 = .int m ∧ 1 ≤ m ∧ m ≤ 1000000000000000000000000000000 := by
    simp only [List.mem_cons, List.not_mem_nil, or_false] at m2
    rcases m2 with rfl | rfl | rfl <;> exact ⟨_, rfl, by omega, by omega⟩
  obtain ⟨p0, rfl, hp1, hp2⟩ := hd2
  obtain ⟨v2, s5, k5, v20, v21, hs5⟩ := c_draw (e0 _) k4 hs4 (by omega) (b1000 (by omega))
  have a2 := c_set (i := 1) (c_add (c_i 1) k5)
  generalize hp : (1 : Int) + v2 = parts at a2
  obtain ⟨v3, s6, k6, v30, v31, hs6⟩ := c_draw (m := mVar 1) (e0 [.im (.int parts), .un, .un, .im (.int m), .im (.int k)]) rfl hs5 (by omega) (b1000 (by omega))
  obtain ⟨d3, s7, k7, m3, hs7⟩ := c_pick (ds := [.int 0, .int (parts - 1), .int v3]) (e0 [.im (.int parts), .un, .un, .im (.int m), .im (.int k)]) (mCons_of _ (c_i 0) (mCons_of _ (c_sub (c_var (i := 1) rfl) (c_i 1)) (c_one k6))) hs6 (by simp) (by simp)
  have hd3 : ∃ z : Int, d3 = .int z ∧ 0 ≤ z ∧ z < parts := by
    simp only [List.mem_cons, List.not_mem_nil, or_false] at m3
    rcases m3 with rfl | rfl | rfl <;> exact ⟨_, rfl, by omega, by omega⟩
  obtain ⟨more, rfl, hr1, hr2⟩ := hd3
  have a3 := c_set (i := 2) k7
  have hkp : (k * parts).natAbs < 2 ^ 200 := by
    rw [Int.natAbs_mul]
    exact Nat.mul_lt_mul'' (a := k.natAbs) (b := parts.natAbs) (c := 2 ^ 100) (d := 2 ^ 100) (by omega) (by omega)
  have hmp : (m * parts).natAbs < 2 ^ 201 := by
    rw [Int.natAbs_mul]
    exact Nat.mul_lt_mul'' (a := m.natAbs) (b := parts.natAbs) (c := 2 ^ 101) (d := 2 ^ 100) (by omega) (by omega)
  have o1 : mulOk k parts = true := mulOk_of (a := 100) (b := 100) (by omega) (by omega) (by decide) (by decide) (by decide)
  have o2 : mulOk m parts = true := mulOk_of (a := 100) (b := 100) (by omega) (by omega) (by decide) (by decide) (by decide)
  have hmp0 : 0 < m * parts := Int.mul_pos (by omega) (by omega)
  have hPn : (k * parts + more).natAbs < 2 ^ 300 := by omega
  have hQn : (m * parts).natAbs < 2 ^ 300 := by omega
  have hkx : (Rat.divInt (k * parts + more) (m * parts)).num * m / (Rat.divInt (k * parts + more) (m * parts)).den = k := by
    rw [floor_mul _ _ _ hmp0, Int.mul_comm m parts, Int.mul_ediv_mul_of_pos_left _ _ (by omega), Int.add_comm, Int.add_mul_ediv_right _ _ (by omega), Int.ediv_eq_zero_of_lt hr1 hr2, Int.zero_add]
  have hfx := floor_divInt (k * parts + more) (m * parts) hmp0
  have hf1 := floor_mul (k * parts + more) (m * parts) 1 hmp0
  have hsz := sz_divInt (k * parts + more) (m * parts) (by omega)
  have hfd : (k * parts + more).fdiv (m * parts) = (k * parts + more) / (m * parts) := Int.fdiv_eq_ediv_of_nonneg _ (by omega)
  have lf := sp_law_frac (k * parts + more) (m * parts) s7 (by omega) (b1000 (by omega))
  have lk := sp_law_frac k m s7 (by omega) (b1000 (by omega))
  have dv : divD (.int (k * parts + more)) (.int (m * parts)) = some (.int ((k * parts + more) / (m * parts))) := by
    rw [ev_div (by omega) (b1000 (by omega)), hfd]
  have t1 : ∀ env : Env, env[1]? = some (.im (.int parts)) → env[2]? = some (.im (.int more)) → env[5]? = some (.im (.int k)) → mOp addD (mOp mulD (mVar 5) (mVar 1)) (mVar 2) env s7 = some (.int (k * parts + more), s7) := fun env h1 h2 h5 => c_add (c_mul (c_var h5) (c_var h1) o1) (c_var h2)
  have t2 : ∀ env : Env, env[1]? = some (.im (.int parts)) → env[4]? = some (.im (.int m)) → mOp mulD (mVar 4) (mVar 1) env s7 = some (.int (m * parts), s7) := fun env h1 h4 => c_mul (c_var h4) (c_var h1) o2
  generalize (k * parts + more) = Pn at *
  generalize (m * parts) = Qn at *
  generalize hX : Rat.divInt Pn Qn = X at *
  have hX1 : Sz 400 X := ⟨Nat.lt_of_le_of_lt hsz.1 (by omega), Nat.lt_of_le_of_lt hsz.2 (by omega)⟩
  have hX9 : X.den < 2 ^ 9000 := Nat.lt_of_lt_of_le hX1.2 (Nat.pow_le_pow_right (by decide) (by decide))
  have dn := sp_down_to X m s7 hX1 (b := 400) (by omega) (by decide) (by decide) (by decide) hX9 (by omega)
  have dn1 := sp_down_to X 1 s7 hX1 (b := 400) (by omega) (by decide) (by decide) (by decide) hX9 (by omega)
  rw [hkx] at dn
  have hq1 : fr (Rat.divInt (X.num * 1 / X.den) 1) = .tuple [.int (Pn / Qn), .int 1] := by
    rw [hf1, Int.mul_one]
    simp [fr, Rat.num_divInt, Rat.den_divInt]
  rw [hq1] at dn1
  have fl := sp_floor_of X s7 hX9
  rw [hfx] at fl
  have sz := sp_size_of X s7
  have a4 := c_set (i := 3) (c_call (c_two (t1 [.im (.dict []), .im (.int parts), .im (.int more), .un, .im (.int m), .im (.int k)] rfl rfl rfl) (t2 _ rfl rfl)) lf)
  refine ⟨s7, mFun1_of (n := 5) ((mSeq_nx a1).trans ((mSeq_nx a2).trans ((mSeq_nx a3).trans ((mSeq_nx a4).trans ((guard_of (s1 := s7) ?_).trans ?_))))), hs7⟩
  · refine tmOr_ff (s1 := s7) (c_nt (c_same (c_call (c_two rfl rfl) dn) (c_call (c_two rfl rfl) lk))) (c_nt (c_sameI (c_call (c_one rfl) fl) (c_op (t1 _ rfl rfl rfl) (t2 _ rfl rfl) dv)))
  · refine c_ret (c_and (c_call (c_two (c_call (c_two rfl rfl) dn1) (c_tup (c_two (c_op (t1 _ rfl rfl rfl) (t2 _ rfl rfl) dv) rfl) (by simp))) ?_) (c_call (c_two (c_call (c_one rfl) sz) (c_tup (c_two (c_bi (c_one (c_op rfl rfl (ev_fr0 X))) rfl) (c_op rfl rfl (ev_fr1 X))) (by simp))) ?_))
    · rw [same12p]; simp
    · rw [same12p]; simp; omega
end DL
set_option Elab.async false
set_option linter.all false
set_option maxRecDepth 100000
set_option maxHeartbeats 2000000
set_option exponentiation.threshold 20000
namespace DL
open PySem
/-! the mathematics, part 24: forms_right -/
def Agree (d : D) : Prop := ∀ s : S, ∃ b : Bool, φ_is_fraction [d] s = some (.bool b, s) ∧ φ__law_is_frac [d] s = some (.bool b, s)
theorem agree_not {d : D} {t : String} (h : tyN d = some t) (h2 : L2.kitB t "tuple" = some false) : Agree d := fun s => by
  refine ⟨false, ?_, ?_⟩
  · unfold φ_is_fraction m_is_fraction
    simp [mFun, mSeq, mSet, mIte, mT, mOp, mVar, mC, mRet, mCall, mCons, mNil, mNext, mUn, mTup, mB, mAnd, mOr, mNot, tmAnd, tmOr, tmNot, mIf, negD, ev_eqI, ev_neI, ev_fr0, ev_fr1, ev_add, ev_sub, ev_gt, ev_lt, mIsi, h, h2]
  · unfold φ__law_is_frac m__law_is_frac
    simp [mFun, mSeq, mSet, mIte, mT, mOp, mVar, mC, mRet, mCall, mCons, mNil, mNext, mUn, mTup, mB, mAnd, mOr, mNot, tmAnd, tmOr, tmNot, mIf, negD, ev_eqI, ev_neI, ev_fr0, ev_fr1, ev_add, ev_sub, ev_gt, ev_lt, mIsi, h, h2]
theorem agree_len {xs : List D} (h : xs.length ≠ 2) : Agree (.tuple xs) := fun s => by
  have h2 : ¬ ((xs.length : Int) = 2) := by omega
  refine ⟨false, ?_, ?_⟩
  · unfold φ_is_fraction m_is_fraction
    simp [mFun, mSeq, mSet, mIte, mT, mOp, mVar, mC, mRet, mCall, mCons, mNil, mNext, mUn, mTup, mB, mAnd, mOr, mNot, tmAnd, tmOr, tmNot, mIf, negD, ev_eqI, ev_neI, ev_fr0, ev_fr1, ev_add, ev_sub, ev_gt, ev_lt, mIsi, tyN, kb9, lenD, h2]
  · unfold φ__law_is_frac m__law_is_frac
    simp [mFun, mSeq, mSet, mIte, mT, mOp, mVar, mC, mRet, mCall, mCons, mNil, mNext, mUn, mTup, mB, mAnd, mOr, mNot, tmAnd, tmOr, tmNot, mIf, negD, ev_eqI, ev_neI, ev_fr0, ev_fr1, ev_add, ev_sub, ev_gt, ev_lt, mIsi, tyN, kb9, lenD, h2]
theorem agree_ints (a b : Int) : Agree (.tuple [.int a, .int b]) := fun s => by
  have ab : absD [.int a] = some (.int (a.natAbs : Int)) := by simp [absD]; omega
  have e1 : (mSeq (mIte (tmOr (tmNot (mT (mIsi "tuple" (mVar 0)))) (mT (mOp neD (mB lenD (mCons (mVar 0) mNil)) (mC (.int 2)))))
    (mRet (mC (.bool false)))
    mNext)) = fun m env s => mSeq (mIte (tmOr (tmNot (mT (mIsi "tuple" (mVar 0)))) (mT (mOp neD (mB lenD (mCons (mVar 0) mNil)) (mC (.int 2)))))
    (mRet (mC (.bool false)))
    mNext) m env s := rfl
  have d1 := sp_divisor_of a b s
  by_cases hb : 0 < b
  · have g1 := sp_law_gcd (a.natAbs : Int) b s (by omega) (by omega)
    have hb1 : ¬ b < 1 := by omega
    have ge : Int.gcd (a.natAbs : Int) b = Int.gcd a b := by simp [Int.gcd]
    rw [ge] at g1
    refine ⟨decide ((Int.gcd a b : Int) = 1), ?_, ?_⟩
    · unfold φ_is_fraction m_is_fraction
      simp [mFun, mSeq, mSet, mIte, mT, mOp, mVar, mC, mRet, mCall, mCons, mNil, mNext, mUn, mTup, mB, mAnd, mOr, mNot, tmAnd, tmOr, tmNot, mIf, negD, ev_eqI, ev_neI, ev_fr0, ev_fr1, ev_add, ev_sub, ev_gt, ev_lt, mIsi, tyN, kb9, lenD, sp_is_int, ixD, L2.atI, L2.ixN, hb, d1]
    · unfold φ__law_is_frac m__law_is_frac
      simp [mFun, mSeq, mSet, mIte, mT, mOp, mVar, mC, mRet, mCall, mCons, mNil, mNext, mUn, mTup, mB, mAnd, mOr, mNot, tmAnd, tmOr, tmNot, mIf, negD, ev_eqI, ev_neI, ev_fr0, ev_fr1, ev_add, ev_sub, ev_gt, ev_lt, mIsi, tyN, kb9, kb1, kb2, lenD, mF, mLc, mItems, seqD, wipeE, lcL, gN, tYesD, allD, blsOf, ixD, L2.atI, L2.ixN, hb1, ab, g1]
  · have hb1 : b < 1 := by omega
    refine ⟨false, ?_, ?_⟩
    · unfold φ_is_fraction m_is_fraction
      simp [mFun, mSeq, mSet, mIte, mT, mOp, mVar, mC, mRet, mCall, mCons, mNil, mNext, mUn, mTup, mB, mAnd, mOr, mNot, tmAnd, tmOr, tmNot, mIf, negD, ev_eqI, ev_neI, ev_fr0, ev_fr1, ev_add, ev_sub, ev_gt, ev_lt, mIsi, tyN, kb9, lenD, sp_is_int, ixD, L2.atI, L2.ixN, hb, d1]
    · unfold φ__law_is_frac m__law_is_frac
      simp [mFun, mSeq, mSet, mIte, mT, mOp, mVar, mC, mRet, mCall, mCons, mNil, mNext, mUn, mTup, mB, mAnd, mOr, mNot, tmAnd, tmOr, tmNot, mIf, negD, ev_eqI, ev_neI, ev_fr0, ev_fr1, ev_add, ev_sub, ev_gt, ev_lt, mIsi, tyN, kb9, kb1, kb2, lenD, mF, mLc, mItems, seqD, wipeE, lcL, gN, tYesD, allD, blsOf, ixD, L2.atI, L2.ixN, hb1]
theorem agree_b1 (a : Bool) (b : Int) : Agree (.tuple [.bool a, .int b]) := fun s => by
  refine ⟨false, ?_, ?_⟩
  · unfold φ_is_fraction m_is_fraction
    simp [mFun, mSeq, mSet, mIte, mT, mOp, mVar, mC, mRet, mCall, mCons, mNil, mNext, mUn, mTup, mB, mAnd, mOr, mNot, tmAnd, tmOr, tmNot, mIf, negD, ev_eqI, ev_neI, ev_fr0, ev_fr1, ev_add, ev_sub, ev_gt, ev_lt, mIsi, tyN, kb9, lenD, sp_is_int, sp_is_bool, ixD, L2.atI, L2.ixN]
  · unfold φ__law_is_frac m__law_is_frac
    simp [mFun, mSeq, mSet, mIte, mT, mOp, mVar, mC, mRet, mCall, mCons, mNil, mNext, mUn, mTup, mB, mAnd, mOr, mNot, tmAnd, tmOr, tmNot, mIf, negD, ev_eqI, ev_neI, ev_fr0, ev_fr1, ev_add, ev_sub, ev_gt, ev_lt, mIsi, tyN, kb9, kb1, kb2, kb5, kb6, lenD, mF, mLc, mItems, seqD, wipeE, lcL, gN, tYesD, allD, blsOf]
theorem agree_b2 (a : Int) (b : Bool) : Agree (.tuple [.int a, .bool b]) := fun s => by
  refine ⟨false, ?_, ?_⟩
  · unfold φ_is_fraction m_is_fraction
    simp [mFun, mSeq, mSet, mIte, mT, mOp, mVar, mC, mRet, mCall, mCons, mNil, mNext, mUn, mTup, mB, mAnd, mOr, mNot, tmAnd, tmOr, tmNot, mIf, negD, ev_eqI, ev_neI, ev_fr0, ev_fr1, ev_add, ev_sub, ev_gt, ev_lt, mIsi, tyN, kb9, lenD, sp_is_int, sp_is_bool, ixD, L2.atI, L2.ixN]
  · unfold φ__law_is_frac m__law_is_frac
    simp [mFun, mSeq, mSet, mIte, mT, mOp, mVar, mC, mRet, mCall, mCons, mNil, mNext, mUn, mTup, mB, mAnd, mOr, mNot, tmAnd, tmOr, tmNot, mIf, negD, ev_eqI, ev_neI, ev_fr0, ev_fr1, ev_add, ev_sub, ev_gt, ev_lt, mIsi, tyN, kb9, kb1, kb2, kb5, kb6, lenD, mF, mLc, mItems, seqD, wipeE, lcL, gN, tYesD, allD, blsOf]
theorem agree_s1 (a : Str) (b : Int) : Agree (.tuple [.str a, .int b]) := fun s => by
  refine ⟨false, ?_, ?_⟩
  · unfold φ_is_fraction m_is_fraction
    simp [mFun, mSeq, mSet, mIte, mT, mOp, mVar, mC, mRet, mCall, mCons, mNil, mNext, mUn, mTup, mB, mAnd, mOr, mNot, tmAnd, tmOr, tmNot, mIf, negD, ev_eqI, ev_neI, ev_fr0, ev_fr1, ev_add, ev_sub, ev_gt, ev_lt, mIsi, tyN, kb9, lenD, sp_is_int, sp_is_str, ixD, L2.atI, L2.ixN]
  · unfold φ__law_is_frac m__law_is_frac
    simp [mFun, mSeq, mSet, mIte, mT, mOp, mVar, mC, mRet, mCall, mCons, mNil, mNext, mUn, mTup, mB, mAnd, mOr, mNot, tmAnd, tmOr, tmNot, mIf, negD, ev_eqI, ev_neI, ev_fr0, ev_fr1, ev_add, ev_sub, ev_gt, ev_lt, mIsi, tyN, kb9, kb1, kb2, kb15, lenD, mF, mLc, mItems, seqD, wipeE, lcL, gN, tYesD, allD, blsOf]
theorem agree_t1 (a : List D) (b : Int) : Agree (.tuple [.tuple a, .int b]) := fun s => by
  refine ⟨false, ?_, ?_⟩
  · unfold φ_is_fraction m_is_fraction
    simp [mFun, mSeq, mSet, mIte, mT, mOp, mVar, mC, mRet, mCall, mCons, mNil, mNext, mUn, mTup, mB, mAnd, mOr, mNot, tmAnd, tmOr, tmNot, mIf, negD, ev_eqI, ev_neI, ev_fr0, ev_fr1, ev_add, ev_sub, ev_gt, ev_lt, mIsi, tyN, kb9, lenD, sp_is_int, sp_is_tup, ixD, L2.atI, L2.ixN]
  · unfold φ__law_is_frac m__law_is_frac
    simp [mFun, mSeq, mSet, mIte, mT, mOp, mVar, mC, mRet, mCall, mCons, mNil, mNext, mUn, mTup, mB, mAnd, mOr, mNot, tmAnd, tmOr, tmNot, mIf, negD, ev_eqI, ev_neI, ev_fr0, ev_fr1, ev_add, ev_sub, ev_gt, ev_lt, mIsi, tyN, kb9, kb1, kb2, kb10, lenD, mF, mLc, mItems, seqD, wipeE, lcL, gN, tYesD, allD, blsOf]
theorem lc_agree (env : Env) (h5 : 5 < env.length) (s : S) : ∀ xs : List D, (∀ x ∈ xs, Agree x) → lcL (gN 5) tYesD (mCall (φ__law_same 12) (mCons (mCall φ_is_fraction (mCons (mVar 5) mNil)) (mCons (mCall φ__law_is_frac (mCons (mVar 5) mNil)) mNil))) env xs s = some (List.replicate xs.length (.bool true), s) := by
  intro xs
  induction xs with
  | nil => intro _; rfl
  | cons x xs ih =>
    intro h
    obtain ⟨b, e1, e2⟩ := h x (List.mem_cons_self ..) s
    have e3 := ih fun y m => h y (List.mem_cons_of_mem _ m)
    have e4 : mVar 5 (env.set 5 (.im x)) s = some (x, s) := c_var (by simp [h5])
    have e5 : φ__law_same 12 [.bool b, .bool b] s = some (.bool true, s) := by rw [sp_same_bool 11]; simp
    have e6 := c_call (c_two (c_call (c_one e4) e1) (c_call (c_one e4) e2)) e5
    simp only [lcL, gN, tYesD, Option.bind_some, if_true, e6, e3]
    rfl
theorem bls_rep (n : Nat) : blsOf (List.replicate n (.bool true)) = some (List.replicate n true) := by
  induction n with
  | zero => rfl
  | succ n ih => simp [List.replicate_succ, blsOf, ih]
theorem all_rep (n : Nat) : allD [.list (List.replicate n (.bool true))] = some (.bool true) := by
  simp [allD, bls_rep]
end DL
set_option Elab.async false
set_option linter.all false
set_option maxRecDepth 100000
set_option maxHeartbeats 2000000
set_option exponentiation.threshold 20000
namespace DL
open PySem
/-! the mathematics, part 25: forms_right, whole -/
theorem c_setO {i : Nat} {ms : EM (List D)} {env : Env} {s s1 : S} {ds : List D} (h : ms env s = some (ds, s1)) (hl : ds.length ≤ 1000) : mSetO i (mLst ms) env s = some (.nx (env.set i (.ow ds)) s1) := by
  simp [mSetO, mLst, h, hl]
theorem c_ext {i : Nat} {m : EM D} {env : Env} {s s1 : S} {ds es : List D} (h0 : env[i]? = some (.ow ds)) (h : m env s = some (.list es, s1)) (hl : ds.length + es.length ≤ 1000000) : mExt i m env s = some (.nx (env.set i (.ow (ds ++ es))) s1) := by
  simp [mExt, isOw, h0, h, hl]
theorem c_num (x : Rat) {env : Env} {s : S} (h : env[1]? = some (.im (fr x))) : mOp ixD (mVar 1) (mC (.int 0)) env s = some (.int x.num, s) := c_op (c_var h) rfl (ev_fr0 x)
theorem c_den (x : Rat) {env : Env} {s : S} (h : env[1]? = some (.im (fr x))) : mOp ixD (mVar 1) (mC (.int 1)) env s = some (.int x.den, s) := c_op (c_var h) rfl (ev_fr1 x)
theorem frac_same (x : Rat) (t : Int) (ht : t ≠ 0) (s : S) : φ_frac [.int (x.num * t), .int (x.den * t)] s = some (fr x, s) := by
  rw [sp_frac _ _ _ (Int.mul_ne_zero (den_ne x) ht), Rat.divInt_mul_right ht, Rat.num_divInt_den]
theorem frac_zero (t : Int) (ht : t ≠ 0) (s : S) : φ_frac [.int 0, .int t] s = some (fr 0, s) := by
  rw [sp_frac _ _ _ ht, Rat.zero_divInt]
theorem str10 (z : Int) : ∃ a : Str, strD [.int (z.fmod 10)] = some (.str a) := by
  have h0 := Int.fmod_nonneg_of_pos z (b := 10) (by omega)
  have h1 := Int.fmod_lt_of_pos z (b := 10) (by omega)
  have h2 : (z.fmod 10).natAbs.log2 < 1920 := log2_lt (n := 1920) (Nat.lt_of_lt_of_le (show (z.fmod 10).natAbs < 2 ^ 4 by omega) (Nat.pow_le_pow_right (by decide) (by decide))) (by decide)
  exact ⟨_, if_pos h2⟩
theorem fm_vals1 (x : Rat) (t n : Int) (o1 : mulOk x.num t = true) (o2 : mulOk x.den t = true) (env : Env) (s : S) (h1 : env[1]? = some (.im (fr x))) (h2 : env[2]? = some (.im (.int t))) (h3 : env[3]? = some (.im (.int n))) :
    mCons (mVar 1) (mCons (mTup (mCons (mOp mulD (mOp ixD (mVar 1) (mC (.int 0))) (mVar 2)) (mCons (mOp mulD (mOp ixD (mVar 1) (mC (.int 1))) (mVar 2)) mNil))) (mCons (mTup (mCons (mOp ixD (mVar 1) (mC (.int 0))) (mCons (mOp subD (mC (.int 0)) (mOp ixD (mVar 1) (mC (.int 1)))) mNil))) (mCons (mTup (mCons (mC (.int 0)) (mCons (mVar 3) mNil))) (mCons (mTup (mCons (mC (.int 0)) (mCons (mC (.int 1)) mNil))) (mCons (mTup (mCons (mC (.int 0)) (mCons (mC (.int 0)) mNil))) (mCons (mTup (mCons (mC (.int 0)) (mCons (mOp subD (mC (.int 0)) (mC (.int 1))) mNil))) (mCons (mF (mBL listL (mCons (mVar 1) mNil))) (mCons (mOp ixD (mVar 1) (mC (.int 0))) (mCons (mC .none) mNil))))))))) env s =
    some ([fr x, .tuple [.int (x.num * t), .int (x.den * t)], .tuple [.int x.num, .int (0 - x.den)], .tuple [.int 0, .int n], .tuple [.int 0, .int 1], .tuple [.int 0, .int 0], .tuple [.int 0, .int (0 - 1)], .list [.int x.num, .int x.den], .int x.num, .none], s) := by
  have q0 : ∀ s : S, mOp ixD (mVar 1) (mC (.int 0)) env s = some (.int x.num, s) := fun s => c_num x h1
  have q1 : ∀ s : S, mOp ixD (mVar 1) (mC (.int 1)) env s = some (.int x.den, s) := fun s => c_den x h1
  refine mCons_of _ (c_var h1) (mCons_of _ (c_tup (c_two (c_mul (q0 _) (c_var h2) o1) (c_mul (q1 _) (c_var h2) o2)) (by simp)) (mCons_of _ (c_tup (c_two (q0 _) (c_sub rfl (q1 _))) (by simp)) (mCons_of _ (c_tup (c_two rfl (c_var h3)) (by simp)) (mCons_of _ (c_tup (c_two rfl rfl) (by simp)) (mCons_of _ (c_tup (c_two rfl rfl) (by simp)) (mCons_of _ (c_tup (c_two rfl (c_sub rfl rfl)) (by simp)) (mCons_of _ ?_ (mCons_of _ (q0 _) (c_one rfl)))))))))
  simp [mFun, mSeq, mSet, mIte, mT, mOp, mVar, mC, mRet, mCall, mCons, mNil, mNext, mUn, mTup, mB, mAnd, mOr, mNot, tmAnd, tmOr, tmNot, mIf, negD, ev_eqI, ev_neI, ev_fr0, ev_fr1, ev_add, ev_sub, ev_gt, ev_lt, mF, mBL, listL, h1, fr]
theorem fm_vals2 (x : Rat) (n : Int) (env : Env) (s : S) (h1 : env[1]? = some (.im (fr x))) (h3 : env[3]? = some (.im (.int n))) : ∃ a : Str,
    mCons (mTup (mCons (mOp ixD (mVar 1) (mC (.int 0))) (mCons (mOp ixD (mVar 1) (mC (.int 1))) (mCons (mC (.int 1)) mNil)))) (mCons (mSl (mVar 1) moN (moI (mC (.int 1)))) (mCons (mTup mNil) (mCons (mTup (mCons (mC (.bool true)) (mCons (mC (.int 2)) mNil))) (mCons (mTup (mCons (mC (.int 3)) (mCons (mC (.bool true)) mNil))) (mCons (mTup (mCons (mOp ixD (mVar 1) (mC (.int 0))) (mCons (mC (.int 0)) mNil))) (mCons (mTup (mCons (mB strD (mCons (mOp modD (mB intD (mCons (mOp ixD (mVar 1) (mC (.int 0))) mNil)) (mC (.int 10))) mNil)) (mCons (mC (.int 1)) mNil))) (mCons (mTup (mCons (mC (.int 1)) (mCons (mVar 3) mNil))) (mCons (mTup (mCons (mVar 3) (mCons (mC (.int 1)) mNil))) (mCons (mTup (mCons (mVar 3) (mCons (mVar 3) mNil))) (mCons (mTup (mCons (mTup (mCons (mC (.int 1)) (mCons (mC (.int 2)) mNil))) (mCons (mC (.int 1)) mNil))) mNil)))))))))) env s =
    some ([.tuple [.int x.num, .int x.den, .int 1], .tuple [.int x.num], .tuple [], .tuple [.bool true, .int 2], .tuple [.int 3, .bool true], .tuple [.int x.num, .int 0], .tuple [.str a, .int 1], .tuple [.int 1, .int n], .tuple [.int n, .int 1], .tuple [.int n, .int n], .tuple [.tuple [.int 1, .int 2], .int 1]], s) := by
  have q0 : ∀ s : S, mOp ixD (mVar 1) (mC (.int 0)) env s = some (.int x.num, s) := fun s => c_num x h1
  have q1 : ∀ s : S, mOp ixD (mVar 1) (mC (.int 1)) env s = some (.int x.den, s) := fun s => c_den x h1
  obtain ⟨a, ha⟩ := str10 x.num
  refine ⟨a, mCons_of _ (c_tup (mCons_of _ (q0 _) (c_two (q1 _) rfl)) (by simp)) (mCons_of _ ?_ (mCons_of _ (c_tup rfl (by simp)) (mCons_of _ (c_tup (c_two rfl rfl) (by simp)) (mCons_of _ (c_tup (c_two rfl rfl) (by simp)) (mCons_of _ (c_tup (c_two (q0 _) rfl) (by simp)) (mCons_of _ (c_tup (c_two (c_bi (c_one (c_op (c_bi (c_one (q0 _)) rfl) rfl ?_)) ha) rfl) (by simp)) (mCons_of _ (c_tup (c_two rfl (c_var h3)) (by simp)) (mCons_of _ (c_tup (c_two (c_var h3) rfl) (by simp)) (mCons_of _ (c_tup (c_two (c_var h3) (c_var h3)) (by simp)) (c_one (c_tup (c_two (c_tup (c_two rfl rfl) (by simp)) rfl) (by simp))))))))))))⟩
  · have e : mSl (mVar 1) moN (moI (mC (.int 1))) env s = some (.tuple (cutD [.int x.num, .int x.den] none (some 1)), s) := by
      simp [mSl, c_var h1, moN, moI, mC, fr]
    rw [e]
    rfl
  · simp [modD, iiD, intD]
theorem fm_ret (env : Env) (L : List D) (s : S) (h4 : (env.map view)[4]? = some (.im (.list L))) (h5 : 5 < env.length) (hl : L.length ≤ 1000000) (ha : ∀ x ∈ L, Agree x) :
    (mRet (mView (mB allD (mCons (mF (mLc (mItems (mVar 4)) [5] (gN 5) tYesD (mCall (φ__law_same 12) (mCons (mCall φ_is_fraction (mCons (mVar 5) mNil)) (mCons (mCall φ__law_is_frac (mCons (mVar 5) mNil)) mNil))))) mNil)))) env s = some (.rt (.bool true) s) := by
  have e : mLc (mItems (mVar 4)) [5] (gN 5) tYesD (mCall (φ__law_same 12) (mCons (mCall φ_is_fraction (mCons (mVar 5) mNil)) (mCons (mCall φ__law_is_frac (mCons (mVar 5) mNil)) mNil))) (env.map view) s = some (List.replicate L.length (.bool true), s) := by
    unfold mLc
    rw [show mItems (mVar 4) (env.map view) s = some (L, s) from by simp [mItems, c_var h4, seqD]]
    simp only [Option.bind_some, if_pos hl]
    exact lc_agree _ (by simp [wipeE, h5]) s L ha
  have e2 := c_bi (c_one (show mF (mLc (mItems (mVar 4)) [5] (gN 5) tYesD (mCall (φ__law_same 12) (mCons (mCall φ_is_fraction (mCons (mVar 5) mNil)) (mCons (mCall φ__law_is_frac (mCons (mVar 5) mNil)) mNil)))) (env.map view) s = some (.list (List.replicate L.length (.bool true)), s) from by simp only [mF, e, Option.bind_some])) (all_rep L.length)
  refine c_ret ?_
  simp only [mView, e2, Option.bind_some]
  rfl
theorem sp_forms_right (x : Rat) (hx : Sz 8000 x) (s : S) (hs : SI s) : ∃ s', φ__law_forms_right [.dict [], fr x] s = some (.bool true, s') ∧ SI s' := by
  have e0 : ∀ xs : Env, (Sl.im (.dict []) :: xs)[0]? = some (.im (.dict [])) := fun _ => rfl
  have b1000 : ∀ {z : Int}, z.natAbs < 2 ^ 400 → z.natAbs < 2 ^ 9000 := fun h => sz_of h (by decide)
  obtain ⟨d1, s1, k1, m1, hs1⟩ := c_pick (ds := [.int 2, .int 100, .int 10000000000000000000000000000000000000000]) (e0 [.im (fr x), .un, .un, .un, .un]) (mCons_of _ (c_i 2) (mCons_of _ (c_i 100) (c_one (c_pow ev_pow40)))) hs (by simp) (by simp)
  have hd1 : ∃ m : Int, d1 = .int m ∧ 1 ≤ m ∧ m ≤ 10000000000000000000000000000000000000000 := by
    simp only [List.mem_cons, List.not_mem_nil, or_false] at m1
    rcases m1 with rfl | rfl | rfl <;> exact ⟨_, rfl, by omega, by omega⟩
  obtain ⟨m0, rfl, hm1, hm2⟩ := hd1
  obtain ⟨v0, s2, k2, v00, v01, hs2⟩ := c_draw (e0 _) k1 hs1 (by omega) (b1000 (by omega))
  obtain ⟨d2, s3, k3, m2, hs3⟩ := c_pick (ds := [.int 1, .int (0 - 1)]) (e0 [.im (fr x), .un, .un, .un, .un]) (mCons_of _ (c_i 1) (c_one (c_sub (c_i 0) (c_i 1)))) hs2 (by simp) (by simp)
  have hd2 : ∃ m : Int, d2 = .int m ∧ (m = 1 ∨ m = -1) := by
    simp only [List.mem_cons, List.not_mem_nil, or_false] at m2
    rcases m2 with rfl | rfl
    · exact ⟨_, rfl, .inl rfl⟩
    · exact ⟨_, rfl, .inr rfl⟩
  obtain ⟨sg, rfl, hsg⟩ := hd2
  have a1 := c_set (i := 2) (c_mul (c_add (c_i 1) k2) k3 (mulOk_of (a := 400) (b := 4) (by omega) (by omega) (by decide) (by decide) (by decide)))
  have ht0 : (1 + v0) * sg ≠ 0 := by rcases hsg with rfl | rfl <;> omega
  have htb : ((1 + v0) * sg).natAbs < 2 ^ 400 := by rcases hsg with rfl | rfl <;> omega
  generalize (1 + v0) * sg = t at a1 ht0 htb
  have o1 : mulOk x.num t = true := mulOk_of (a := 8000) (b := 400) hx.1 htb (by decide) (by decide) (by decide)
  have o2 : mulOk x.den t = true := mulOk_of (a := 8000) (b := 400) (by simpa using hx.2) htb (by decide) (by decide) (by decide)
  obtain ⟨v1, s4, k4, v10, v11, hs4⟩ := c_draw (e0 [.im (fr x), .im (.int t), .un, .un, .un]) (c_pow ev_pow9) hs3 (by omega) (b1000 (by omega))
  obtain ⟨v2, s5, k5, v20, v21, hs5⟩ := c_draw (m := mC (.int 9)) (e0 [.im (fr x), .im (.int t), .un, .un, .un]) rfl hs4 (by omega) (b1000 (by omega))
  obtain ⟨d3, s6, k6, m3, hs6⟩ := c_pick (ds := [.int 1, .int 2, .int 41, .int (1 + v1), .int (10000000000000000000000000000000000000000 + v2)]) (e0 [.im (fr x), .im (.int t), .un, .un, .un]) (mCons_of _ (c_i 1) (mCons_of _ (c_i 2) (mCons_of _ (c_i 41) (mCons_of _ (c_add (c_i 1) k4) (c_one (c_add (c_pow ev_pow40) k5)))))) hs5 (by simp) (by simp)
  have hd3 : ∃ n : Int, d3 = .int n := by
    simp only [List.mem_cons, List.not_mem_nil, or_false] at m3
    rcases m3 with rfl | rfl | rfl | rfl | rfl <;> exact ⟨_, rfl⟩
  obtain ⟨n, rfl⟩ := hd3
  have a3 := c_set (i := 3) k6
  have f1 := fm_vals1 x t n o1 o2 [.im (.dict []), .im (fr x), .im (.int t), .im (.int n), .un, .un] s6 rfl rfl rfl
  have a4 := c_setO (i := 4) f1 (by simp)
  obtain ⟨a, f2⟩ := fm_vals2 x n ([.im (.dict []), .im (fr x), .im (.int t), .im (.int n), .un, .un].set 4 (.ow [fr x, .tuple [.int (x.num * t), .int (x.den * t)], .tuple [.int x.num, .int (0 - x.den)], .tuple [.int 0, .int n], .tuple [.int 0, .int 1], .tuple [.int 0, .int 0], .tuple [.int 0, .int (0 - 1)], .list [.int x.num, .int x.den], .int x.num, .none])) s6 rfl rfl
  have a5 := c_ext (i := 4) rfl (lst_of f2 (by simp)) (by simp)
  refine ⟨s6, mFun2_of (n := 4) ((mSeq_nx a1).trans ((guard_of (s1 := s3) ?_).trans ((mSeq_nx a3).trans ((mSeq_nx a4).trans ((mSeq_nx a5).trans ?_))))), hs6⟩
  · refine tmOr_ff (s1 := s3) (c_nt (c_same (c_call (c_two (c_mul (c_num x rfl) rfl o1) (c_mul (c_den x rfl) rfl o2)) (frac_same x t ht0 s3)) rfl)) (c_nt (c_same (x := 0) (c_call (c_two rfl rfl) (frac_zero t ht0 s3)) rfl))
  · refine fm_ret _ _ s6 rfl (by simp) (by simp) ?_
    simp only [List.cons_append, List.nil_append, List.forall_mem_cons]
    exact ⟨agree_ints _ _, agree_ints _ _, agree_ints _ _, agree_ints _ _, agree_ints _ _, agree_ints _ _, agree_ints _ _, agree_not rfl kb17, agree_not rfl kb3, agree_not rfl kb19, agree_len (by simp), agree_len (by simp), agree_len (by simp), agree_b1 _ _, agree_b2 _ _, agree_ints _ _, agree_s1 _ _, agree_ints _ _, agree_ints _ _, agree_ints _ _, agree_t1 _ _, by simp⟩
end DL
set_option Elab.async false
set_option linter.all false
set_option maxRecDepth 100000
set_option maxHeartbeats 2000000
set_option exponentiation.threshold 20000
namespace DL
open PySem
/-! the mathematics, part 26: rows_right -/
theorem sp_sum_turned {a N : Nat} (ha : 0 < a) (xs : List Rat) (hN : xs.length ≤ N) (hl : xs.length ≤ 1000) (hb : a * (N + 2) + N + a ≤ 1000000) (hz : ∀ x ∈ xs, Sz a x) (s : S) (hs : SI s) :
    ∃ (d : D) (s' : S), φ__law_turned [.dict [], .list (xs.map fr)] s = some (d, s') ∧ SI s' ∧ ∀ s2, φ_sum_of [d] s2 = some (fr (xs.foldl (· + ·) 0), s2) := by
  obtain ⟨d, zs, s', e, rw1, p, hs'⟩ := sp_turned (xs.map fr) s hs (by simpa using hl)
  obtain ⟨ys, rfl, p2⟩ := perm_fr p
  exact ⟨d, s', e, hs', fun s2 => sp_sum ha rw1 p2 hN hb hz s2⟩
theorem c_sum {F G : Fn} {env : Env} {s s1 : S} {row due : D} {d : D} {x : Rat} (e0 : env[0]? = some (.im (.dict []))) (e2 : env[2]? = some (.im row)) (e3 : env[3]? = some (.im due)) (hd : due = fr x) (h1 : F [.dict [], row] s = some (d, s1)) (h2 : G [d] s1 = some (fr x, s1)) :
    mCall (φ__law_same 12) (mCons (mCall G (mCons (mCall F (mCons (mVar 0) (mCons (mVar 2) mNil))) mNil)) (mCons (mVar 3) mNil)) env s = some (.bool true, s1) := by
  subst hd
  exact c_same (c_call (c_one (c_call (c_two (c_var e0) (c_var e2)) h1)) h2) (c_var e3)
/-! telescoping -/
def tel (sg b : Int) (i : Nat) : Rat := Rat.divInt sg ((b + i) * (b + i + 1))
theorem tel_sum (sg b : Int) (hb : 1 ≤ b) : ∀ n : Nat, ((List.range n).map (tel sg b)).foldl (· + ·) 0 = Rat.divInt (sg * n) (b * (b + n)) := by
  intro n
  induction n with
  | zero => simp
  | succ n ih =>
    rw [List.range_succ, List.map_append, List.foldl_append, ih]
    simp only [List.map_cons, List.map_nil, List.foldl_cons, List.foldl_nil, tel]
    have h1 : b * (b + n) ≠ 0 := Int.mul_ne_zero (by omega) (by omega)
    have h2 : (b + n) * (b + n + 1) ≠ 0 := Int.mul_ne_zero (by omega) (by omega)
    have h3 : b * (b + ((n + 1 : Nat) : Int)) ≠ 0 := Int.mul_ne_zero (by omega) (by omega)
    rw [Rat.divInt_add_divInt _ _ h1 h2, Rat.divInt_eq_divInt_iff (Int.mul_ne_zero h1 h2) h3]
    push_cast
    grind
theorem tel_fr {sg b : Int} (hs : sg = 1 ∨ sg = -1) (hb : 1 ≤ b) (i : Nat) : fr (tel sg b i) = .tuple [.int sg, .int ((b + i) * (b + i + 1))] := by
  have h := fr_rt (p := (sg, (b + i) * (b + i + 1))) (by rcases hs with rfl | rfl <;> simp) (by have := Int.mul_pos (a := b + i) (b := b + i + 1) (by omega) (by omega); show 1 ≤ (b + i) * (b + i + 1); omega)
  exact h.1
theorem tel_sz {sg b : Int} (hs : sg = 1 ∨ sg = -1) (hb : 1 ≤ b) (hb2 : b ≤ 1000) (i : Nat) (hi : i < 400) : Sz 21 (tel sg b i) := by
  have h := fr_rt (p := (sg, (b + i) * (b + i + 1))) (by rcases hs with rfl | rfl <;> simp) (by have := Int.mul_pos (a := b + i) (b := b + i + 1) (by omega) (by omega); show 1 ≤ (b + i) * (b + i + 1); omega)
  refine sz_rt h ?_ ?_
  · show sg.natAbs < 2 ^ 21
    rcases hs with rfl | rfl <;> decide
  · show ((b + i) * (b + i + 1)).natAbs < 2 ^ 21
    rw [Int.natAbs_mul]
    exact Nat.lt_of_lt_of_le (Nat.mul_lt_mul'' (a := (b + i).natAbs) (b := (b + i + 1).natAbs) (c := 1448) (d := 1448) (by omega) (by omega)) (by decide)
theorem lc_tel (sg b : Int) (hs : sg = 1 ∨ sg = -1) (hb : 1 ≤ b) (hb2 : b ≤ 1000) (env : Env) (h5 : 5 < env.length) (h1 : env[1]? = some (.im (.int sg))) (s : S) : ∀ is : List Nat, (∀ i ∈ is, i < 400) →
    lcL (gN 5) tYesD (mTup (mCons (mVar 1) (mCons (mOp mulD (mVar 5) (mOp addD (mVar 5) (mC (.int 1)))) mNil))) env (is.map fun (i : Nat) => .int (b + (i : Int))) s = some (is.map fun i => fr (tel sg b i), s) := by
  intro is
  induction is with
  | nil => intro _; rfl
  | cons i is ih =>
    intro h
    have hi := h i (List.mem_cons_self ..)
    have e3 := ih fun y m => h y (List.mem_cons_of_mem _ m)
    have e4 : mVar 5 (env.set 5 (.im (.int (b + (i : Int))))) s = some (.int (b + (i : Int)), s) := c_var (by simp [h5])
    have e5 : mVar 1 (env.set 5 (.im (.int (b + (i : Int))))) s = some (.int sg, s) := c_var (by simp [h1])
    have e6 := c_tup (c_two e5 (c_mul e4 (c_add e4 (c_con (.int 1) _ _)) (mulOk_of (a := 21) (b := 21) (by omega) (by omega) (by decide) (by decide) (by decide)))) (by simp)
    rw [← tel_fr hs hb i] at e6
    simp only [List.map_cons, lcL, gN, tYesD, Option.bind_some, if_true, e6, e3]
/-! geometric -/
def geo (T B : Int) (i : Nat) : Rat := Rat.divInt (T ^ i) (B ^ i)
theorem geo_sum (T B : Int) (hB : B ≠ 0) (hT : B ≠ T) : ∀ n : Nat, ((List.range n).map (geo T B)).foldl (· + ·) 0 = Rat.divInt ((B ^ n - T ^ n) * B) (B ^ n * (B - T)) := by
  intro n
  induction n with
  | zero => simp
  | succ n ih =>
    rw [List.range_succ, List.map_append, List.foldl_append, ih]
    simp only [List.map_cons, List.map_nil, List.foldl_cons, List.foldl_nil, geo]
    have hp : B ^ n ≠ 0 := Int.pow_ne_zero hB
    have h1 : B ^ n * (B - T) ≠ 0 := Int.mul_ne_zero hp (by omega)
    have h3 : B ^ (n + 1) * (B - T) ≠ 0 := Int.mul_ne_zero (Int.pow_ne_zero hB) (by omega)
    rw [Rat.divInt_add_divInt _ _ h1 hp, Rat.divInt_eq_divInt_iff (Int.mul_ne_zero h1 hp) h3, Int.pow_succ, Int.pow_succ]
    grind
structure TB (T B : Int) : Prop where
  g : Nat.Coprime T.natAbs B.natAbs
  b : 2 ≤ B
  b7 : B ≤ 7
  t7 : T.natAbs ≤ 7
  ne : B ≠ T
theorem pow_small {T : Int} (h : T.natAbs ≤ 7) {n : Nat} (hn : n ≤ 60) : (T ^ n).natAbs < 2 ^ 180 := by
  rw [Int.natAbs_pow]
  refine Nat.lt_of_le_of_lt (Nat.pow_le_pow_left h n) (Nat.lt_of_le_of_lt (Nat.pow_le_pow_right (by decide) hn) ?_)
  decide
theorem TB.f {T B : Int} (h : TB T B) (i : Nat) : fr (rt (T ^ i, B ^ i)) = pr (T ^ i, B ^ i) ∧ (rt (T ^ i, B ^ i)).num = T ^ i ∧ ((rt (T ^ i, B ^ i)).den : Int) = B ^ i := by
  refine fr_rt (p := (T ^ i, B ^ i)) ?_ ?_
  · show Int.gcd (T ^ i) (B ^ i) = 1
    unfold Int.gcd
    rw [Int.natAbs_pow, Int.natAbs_pow]
    exact Nat.Coprime.pow i i h.g
  · have : 0 < B ^ i := Int.pow_pos (by have := h.b; omega)
    show 1 ≤ B ^ i
    omega
theorem TB.fr {T B : Int} (h : TB T B) (i : Nat) : DL.fr (geo T B i) = .tuple [.int (T ^ i), .int (B ^ i)] := (h.f i).1
theorem TB.sz {T B : Int} (h : TB T B) (i : Nat) (hi : i ≤ 60) : Sz 180 (geo T B i) :=
  sz_rt (h.f i) (pow_small h.t7 hi) (pow_small (by have := h.b; have := h.b7; omega) hi)
def seqI (j : Int) : Nat → List D
  | 0 => []
  | n + 1 => .int j :: seqI (j + 1) n
theorem rg_ints (lo hi : Int) : rgD lo hi = seqI lo (hi - lo).toNat := by
  unfold rgD
  generalize (hi - lo).toNat = n
  induction n generalizing lo with
  | zero => rfl
  | succ n ih =>
    rw [List.range_succ_eq_map, List.map_cons, List.map_map]
    show _ = .int lo :: seqI (lo + 1) n
    rw [← ih (lo + 1)]
    congr 1
    · simp
    · refine List.map_congr_left fun i _ => ?_
      simp
      omega
noncomputable abbrev geB : SM := (mApp 2 (mTup (mCons (mOp mulD (mOp ixD (mIxV 2 (mOp subD (mVar 5) (mC (.int 1)))) (mC (.int 0))) (mVar 8)) (mCons (mOp mulD (mOp ixD (mIxV 2 (mOp subD (mVar 5) (mC (.int 1)))) (mC (.int 1))) (mVar 9)) mNil))))
theorem geo_loop {T B : Int} (h : TB T B) (x0 x1 x3 x4 x6 x7 : Sl) (s : S) : ∀ (m : Nat) (j : Nat) (o : Sl), 1 ≤ j → j + m ≤ 60 → ∃ o' : Sl,
    forL (gN 5) geB (seqI j m) [x0, x1, .ow ((List.range j).map fun i => DL.fr (geo T B i)), x3, x4, o, x6, x7, .im (.int T), .im (.int B)] s = some (.nx [x0, x1, .ow ((List.range (j + m)).map fun i => DL.fr (geo T B i)), x3, x4, o', x6, x7, .im (.int T), .im (.int B)] s) := by
  intro m
  induction m with
  | zero => intro j o _ _; exact ⟨o, rfl⟩
  | succ m ih =>
    intro j o h1 h2
    obtain ⟨o', e⟩ := ih (j + 1) (.im (.int j)) (by omega) (by omega)
    refine ⟨o', ?_⟩
    have ix : ixD (.list ((List.range j).map fun i => DL.fr (geo T B i))) (.int ((j : Int) - 1)) = some (.tuple [.int (T ^ (j - 1)), .int (B ^ (j - 1))]) := by
      have hj : ((j : Int) - 1) = ((j - 1 : Nat) : Int) := by omega
      rw [hj, ← h.fr (j - 1)]
      have hlt : j - 1 < j := by omega
      simp [ixD, L2.atI, L2.ixN, hlt]
    have o1 : mulOk (T ^ (j - 1)) T = true := mulOk_of (a := 180) (b := 4) (pow_small h.t7 (by omega)) (by have := h.t7; omega) (by decide) (by decide) (by decide)
    have o2 : mulOk (B ^ (j - 1)) B = true := mulOk_of (a := 180) (b := 4) (pow_small (by have := h.b; have := h.b7; omega) (by omega)) (by have := h.b; have := h.b7; omega) (by decide) (by decide) (by decide)
    have hx : ∀ env : Env, env[2]? = some (.ow ((List.range j).map fun i => DL.fr (geo T B i))) → env[5]? = some (.im (.int j)) → mIxV 2 (mOp subD (mVar 5) (mC (.int 1))) env s = some (.tuple [.int (T ^ (j - 1)), .int (B ^ (j - 1))], s) := fun env e2 e5 => by
      have e6 : mOp subD (mVar 5) (mC (.int 1)) env s = some (.int ((j : Int) - 1), s) := c_sub (c_var e5) rfl
      simp [mIxV, e6, e2, ix]
    have et : mTup (mCons (mOp mulD (mOp ixD (mIxV 2 (mOp subD (mVar 5) (mC (.int 1)))) (mC (.int 0))) (mVar 8)) (mCons (mOp mulD (mOp ixD (mIxV 2 (mOp subD (mVar 5) (mC (.int 1)))) (mC (.int 1))) (mVar 9)) mNil)) [x0, x1, .ow ((List.range j).map fun i => DL.fr (geo T B i)), x3, x4, .im (.int j), x6, x7, .im (.int T), .im (.int B)] s = some (.tuple [.int (T ^ (j - 1) * T), .int (B ^ (j - 1) * B)], s) :=
      c_tup (c_two (c_mul (c_op (hx _ rfl rfl) rfl (by simp [ixD, L2.atI, L2.ixN])) rfl o1) (c_mul (c_op (hx _ rfl rfl) rfl (by simp [ixD, L2.atI, L2.ixN])) rfl o2)) (by simp)
    have hp : ∀ z : Int, z ^ (j - 1) * z = z ^ j := fun z => by
      rw [← Int.pow_succ, show (j - 1).succ = j by omega]
    rw [hp, hp, ← h.fr j] at et
    have hlj : ((List.range j).map fun i => DL.fr (geo T B i)).length ≤ 999999 := by simp; omega
    have ea : geB [x0, x1, .ow ((List.range j).map fun i => DL.fr (geo T B i)), x3, x4, .im (.int j), x6, x7, .im (.int T), .im (.int B)] s = some (.nx [x0, x1, .ow ((List.range (j + 1)).map fun i => DL.fr (geo T B i)), x3, x4, .im (.int j), x6, x7, .im (.int T), .im (.int B)] s) := by
      have hl2 : j ≤ 999999 := by omega
      have hl3 : j ≤ 1000000 := by omega
      simp [geB, mAppX, isOw, ex, et, hl2, hl3, List.range_succ]
    have ej : seqI j (m + 1) = .int j :: seqI (((j + 1 : Nat)) : Int) m := by
      show .int (j : Int) :: seqI ((j : Int) + 1) m = _
      simp
    rw [ej]
    have hjm : j + (m + 1) = j + 1 + m := by omega
    rw [hjm]
    simp only [forL, gN, Option.bind_some, List.set_cons_succ, List.set_cons_zero, ea, e]
noncomputable abbrev whB : SM := (mSet 6 (mF (mLst (mCons (mOp mulD (mOp ixD (mVar 6) (mC (.int 0))) (mVar 8)) (mCons (mOp mulD (mOp ixD (mVar 6) (mC (.int 1))) (mVar 9)) mNil)))))
theorem wh_loop {T B : Int} (h : TB T B) (x0 x1 x2 x3 x4 x7 : Sl) (s : S) : ∀ (m : Nat) (j : Nat) (o : Sl), j + m ≤ 60 → ∃ o' : Sl,
    forL (gN 5) whB (seqI j m) [x0, x1, x2, x3, x4, o, .im (.list [.int (T ^ j), .int (B ^ j)]), x7, .im (.int T), .im (.int B)] s = some (.nx [x0, x1, x2, x3, x4, o', .im (.list [.int (T ^ (j + m)), .int (B ^ (j + m))]), x7, .im (.int T), .im (.int B)] s) := by
  intro m
  induction m with
  | zero => intro j o _; exact ⟨o, rfl⟩
  | succ m ih =>
    intro j o h2
    obtain ⟨o', e⟩ := ih (j + 1) (.im (.int j)) (by omega)
    refine ⟨o', ?_⟩
    have o1 : mulOk (T ^ j) T = true := mulOk_of (a := 180) (b := 4) (pow_small h.t7 (by omega)) (by have := h.t7; omega) (by decide) (by decide) (by decide)
    have o2 : mulOk (B ^ j) B = true := mulOk_of (a := 180) (b := 4) (pow_small (by have := h.b; have := h.b7; omega) (by omega)) (by have := h.b; have := h.b7; omega) (by decide) (by decide) (by decide)
    have ea : whB [x0, x1, x2, x3, x4, .im (.int j), .im (.list [.int (T ^ j), .int (B ^ j)]), x7, .im (.int T), .im (.int B)] s = some (.nx [x0, x1, x2, x3, x4, .im (.int j), .im (.list [.int (T ^ (j + 1)), .int (B ^ (j + 1))]), x7, .im (.int T), .im (.int B)] s) := by
      have i0 : ixD (.list [.int (T ^ j), .int (B ^ j)]) (.int 0) = some (.int (T ^ j)) := by simp [ixD, L2.atI, L2.ixN]
      have i1 : ixD (.list [.int (T ^ j), .int (B ^ j)]) (.int 1) = some (.int (B ^ j)) := by simp [ixD, L2.atI, L2.ixN]
      have q := c_set (i := 6) (lst_of (c_two (c_mul (c_op (a := mVar 6) (b := mC (.int 0)) (env := [x0, x1, x2, x3, x4, .im (.int j), .im (.list [.int (T ^ j), .int (B ^ j)]), x7, .im (.int T), .im (.int B)]) (s := s) rfl rfl i0) (b := mVar 8) rfl o1) (c_mul (c_op (a := mVar 6) (b := mC (.int 1)) rfl rfl i1) (b := mVar 9) rfl o2)) (by simp))
      rw [Int.pow_succ, Int.pow_succ]
      exact q
    have ej : seqI j (m + 1) = .int j :: seqI (((j + 1 : Nat)) : Int) m := by
      show .int (j : Int) :: seqI ((j : Int) + 1) m = _
      simp
    rw [ej]
    have hjm : j + (m + 1) = j + 1 + m := by omega
    rw [hjm]
    simp only [forL, gN, Option.bind_some, List.set_cons_succ, List.set_cons_zero, ea, e]
end DL
set_option Elab.async false
set_option linter.all false
set_option maxRecDepth 100000
set_option maxHeartbeats 2000000
set_option exponentiation.threshold 20000
namespace DL
open PySem
/-! the mathematics, part 27: rows_right, whole -/
theorem c_lc {mi : EM (List D)} {vs : List Nat} {g : GM} {t : EM Bool} {e : EM D} {env : Env} {s s1 s2 : S} {l r : List D} (h : mi env s = some (l, s1)) (hl : l.length ≤ 1000000) (h2 : lcL g t e (wipeE env vs) l s1 = some (r, s2)) : mLc mi vs g t e env s = some (r, s2) := by
  simp [mLc, h, hl, h2]
theorem c_setO1 {i : Nat} {m : EM (List D)} {env : Env} {s s1 : S} {ds : List D} (h : m env s = some (ds, s1)) : mSetO i m env s = some (.nx (env.set i (.ow ds)) s1) := by
  simp [mSetO, h]
theorem c_frz {i : Nat} {m : SM} {env : Env} {s : S} {ds : List D} {x : Option Ou} (h : env[i]? = some (.ow ds)) (h2 : m (env.set i (.im (.list ds))) s = x) : mFrz i m env s = x := by
  simp [mFrz, h, h2]
theorem c_asg2 {m : EM D} {i j : Nat} {env : Env} {s s1 : S} {d e : D} (h : m env s = some (.tuple [d, e], s1)) : mAsg m (gT 2 (gsCons (gN i) (gsCons (gN j) gsNil))) env s = some (.nx ((env.set i (.im d)).set j (.im e)) s1) := by
  simp [mAsg, h, gT, gsCons, gN, gsNil]
theorem rg_from (b : Int) (n : Nat) : rgD b (b + n) = (List.range n).map fun (i : Nat) => .int (b + (i : Int)) := by
  unfold rgD
  rw [show (b + (n : Int) - b).toNat = n by omega]
noncomputable abbrev r8 : SM := (mSetO 2 (mRepL (mF (mLst (mCons (mTup (mCons (mC (.int 1)) (mCons (mC (.int 1)) mNil))) mNil))) (mB intD (mCons (mOp gtD (mVar 4) (mC (.int 0))) mNil))))
theorem geo_part {T B : Int} (h : TB T B) (x0 x1 x2 x3 o x6 x7 : Sl) (m : Nat) (hm : m ≤ 60) (s : S) : ∃ o' : Sl, ∀ R : SM,
    mSeq r8 (mSeq (mFor (mRg2 (mCons (mC (.int 1)) (mCons (mVar 4) mNil))) (gN 5) geB) R) [x0, x1, x2, x3, .im (.int m), o, x6, x7, .im (.int T), .im (.int B)] s =
      R [x0, x1, .ow ((List.range m).map fun i => fr (geo T B i)), x3, .im (.int m), o', x6, x7, .im (.int T), .im (.int B)] s := by
  have rg : ∀ x2 : Sl, mRg2 (mCons (mC (.int 1)) (mCons (mVar 4) mNil)) [x0, x1, x2, x3, .im (.int m), o, x6, x7, .im (.int T), .im (.int B)] s = some (rgD 1 m, s) := fun x2 => mRg2_of (c_two rfl rfl) (rgOk_of (by omega) (by omega) (by omega) (by omega))
  by_cases h0 : m = 0
  · subst h0
    refine ⟨o, fun R => ?_⟩
    have a8 : r8 [x0, x1, x2, x3, .im (.int ((0 : Nat) : Int)), o, x6, x7, .im (.int T), .im (.int B)] s = some (.nx [x0, x1, .ow [], x3, .im (.int ((0 : Nat) : Int)), o, x6, x7, .im (.int T), .im (.int B)] s) := by
      simp [mFun, mSeq, mSet, mIte, mT, mOp, mVar, mC, mRet, mCall, mCons, mNil, mNext, mUn, mTup, mB, mAnd, mOr, mNot, tmAnd, tmOr, tmNot, mIf, negD, ev_eqI, ev_neI, ev_fr0, ev_fr1, ev_add, ev_sub, ev_gt, ev_lt, r8, mSetO, mRepL, mF, mLst, intD]
    refine (mSeq_nx a8).trans ?_
    refine (mSeq_nx ((mFor_of (rg _)).trans rfl))
  · obtain ⟨n, rfl⟩ : ∃ n, m = n + 1 := ⟨m - 1, by omega⟩
    have hpos : (0 : Int) < ((n + 1 : Nat) : Int) := by omega
    have a8 : r8 [x0, x1, x2, x3, .im (.int ((n + 1 : Nat) : Int)), o, x6, x7, .im (.int T), .im (.int B)] s = some (.nx [x0, x1, .ow ((List.range 1).map fun i => fr (geo T B i)), x3, .im (.int ((n + 1 : Nat) : Int)), o, x6, x7, .im (.int T), .im (.int B)] s) := by
      have hf : (List.range 1).map (fun i => fr (geo T B i)) = [.tuple [.int 1, .int 1]] := by
        show [fr (geo T B 0)] = _
        rw [h.fr 0]
        simp
      have hg : gtD (.int ((n + 1 : Nat) : Int)) (.int 0) = some (.bool true) := by rw [ev_gt, decide_eq_true hpos]
      have e1 := c_bi (f := intD) (g := .int 1) (c_one (c_op (a := mVar 4) (b := mC (.int 0)) (env := [x0, x1, x2, x3, .im (.int ((n + 1 : Nat) : Int)), o, x6, x7, .im (.int T), .im (.int B)]) (s := s) rfl rfl hg)) rfl
      have e2 := lst_of (c_one (c_tup (c_two (c_con (.int 1) [x0, x1, x2, x3, .im (.int ((n + 1 : Nat) : Int)), o, x6, x7, .im (.int T), .im (.int B)] s) (c_con (.int 1) _ s)) (by simp))) (by simp)
      rw [hf]
      refine c_setO1 ?_
      simp only [mRepL, e1, e2, Option.bind_some]
      rfl
    obtain ⟨o', e⟩ := geo_loop h x0 x1 x3 (.im (.int ((n + 1 : Nat) : Int))) x6 x7 s n 1 o (by omega) (by omega)
    refine ⟨o', fun R => ?_⟩
    have hr : rgD 1 ((n + 1 : Nat) : Int) = seqI ((1 : Nat) : Int) n := by
      rw [rg_ints]
      congr 1
      omega
    rw [Nat.add_comm 1 n] at e
    refine (mSeq_nx a8).trans ?_
    refine (mSeq_nx ((mFor_of (rg _)).trans ?_))
    rw [hr]
    exact e
theorem sp_rows_right (s : S) (hs : SI s) : ∃ s', φ__law_rows_right [.dict []] s = some (.bool true, s') ∧ SI s' := by
  have e0 : ∀ xs : Env, (Sl.im (.dict []) :: xs)[0]? = some (.im (.dict [])) := fun _ => rfl
  have b1000 : ∀ {z : Int}, z.natAbs < 2 ^ 400 → z.natAbs < 2 ^ 9000 := fun h => sz_of h (by decide)
  obtain ⟨d1, s1, k1, m1, hs1⟩ := c_pick (ds := [.int 3, .int 1000]) (e0 [.un, .un, .un, .un, .un, .un, .un, .un, .un]) (c_two (c_i 3) (c_i 1000)) hs (by simp) (by simp)
  have hd1 : ∃ m : Int, d1 = .int m ∧ 1 ≤ m ∧ m ≤ 1000 := by
    simp only [List.mem_cons, List.not_mem_nil, or_false] at m1
    rcases m1 with rfl | rfl <;> exact ⟨_, rfl, by omega, by omega⟩
  obtain ⟨m0, rfl, hm1, hm2⟩ := hd1
  obtain ⟨v0, s2, k2, v00, v01, hs2⟩ := c_draw (e0 _) k1 hs1 (by omega) (b1000 (by omega))
  obtain ⟨d2, s3, k3, m2, hs3⟩ := c_pick (ds := [.int 0, .int 1, .int 2, .int 40, .int 399, .int 400]) (e0 [.un, .un, .un, .un, .un, .un, .un, .un, .un]) (mCons_of _ (c_i 0) (mCons_of _ (c_i 1) (mCons_of _ (c_i 2) (mCons_of _ (c_i 40) (c_two (c_i 399) (c_i 400)))))) hs2 (by simp) (by simp)
  have hd2 : ∃ n : Nat, d2 = .int n ∧ n ≤ 400 := by
    simp only [List.mem_cons, List.not_mem_nil, or_false] at m2
    rcases m2 with rfl | rfl | rfl | rfl | rfl | rfl
    · exact ⟨0, rfl, by omega⟩
    · exact ⟨1, rfl, by omega⟩
    · exact ⟨2, rfl, by omega⟩
    · exact ⟨40, rfl, by omega⟩
    · exact ⟨399, rfl, by omega⟩
    · exact ⟨400, rfl, by omega⟩
  obtain ⟨n, rfl, hn⟩ := hd2
  have a1 := c_par2 (i := 7) (j := 4) (c_add (c_i 1) k2) k3
  generalize hb : (1 : Int) + v0 = b at a1
  obtain ⟨d3, s4, k4, m3, hs4⟩ := c_pick (ds := [.int 1, .int (0 - 1)]) (e0 [.un, .un, .un, .im (.int n), .un, .un, .im (.int b), .un, .un]) (mCons_of _ (c_i 1) (c_one (c_sub (c_i 0) (c_i 1)))) hs3 (by simp) (by simp)
  have hd3 : ∃ m : Int, d3 = .int m ∧ (m = 1 ∨ m = -1) := by
    simp only [List.mem_cons, List.not_mem_nil, or_false] at m3
    rcases m3 with rfl | rfl
    · exact ⟨_, rfl, .inl rfl⟩
    · exact ⟨_, rfl, .inr rfl⟩
  obtain ⟨sg, rfl, hsg⟩ := hd3
  have a2 := c_set (i := 1) k4
  have rg : mRg2 (mCons (mVar 7) (mCons (mOp addD (mVar 7) (mVar 4)) mNil)) [.im (.dict []), .im (.int sg), .un, .un, .im (.int n), .un, .un, .im (.int b), .un, .un] s4 = some (rgD b (b + n), s4) := mRg2_of (c_two rfl (c_add rfl rfl)) (rgOk_of (by omega) (by omega) (by omega) (by omega))
  rw [rg_from] at rg
  have a3 := c_setO1 (i := 2) (c_lc (vs := [5]) (g := gN 5) (t := tYesD) rg (by simp; omega) (lc_tel sg b hsg (by omega) (by omega) _ (by simp [wipeE]) rfl s4 (List.range n) (fun i hi => by have := List.mem_range.mp hi; omega)))
  have hbn : 0 < b * (b + n) := Int.mul_pos (by omega) (by omega)
  have hbs : (b * (b + n)).natAbs < 2 ^ 400 := by
    rw [Int.natAbs_mul]
    exact Nat.lt_of_lt_of_le (Nat.mul_lt_mul'' (a := b.natAbs) (b := (b + n).natAbs) (c := 2 ^ 20) (d := 2 ^ 20) (by omega) (by omega)) (by rw [← Nat.pow_add]; exact Nat.pow_le_pow_right (by decide) (by decide))
  have a4 := c_set (i := 3) (c_call (c_two (c_mul (a := mVar 1) (b := mVar 4) (env := [.im (.dict []), .im (.int sg), .ow ((List.range n).map fun i => fr (tel sg b i)), .un, .im (.int n), .un, .un, .im (.int b), .un, .un]) (s := s4) rfl rfl (mulOk_of (a := 2) (b := 20) (by rcases hsg with rfl | rfl <;> decide) (by omega) (by decide) (by decide) (by decide)))
    (c_mul (a := mVar 7) (b := mOp addD (mVar 7) (mVar 4)) rfl (c_add rfl rfl) (mulOk_of (a := 20) (b := 20) (by omega) (by omega) (by decide) (by decide) (by decide)))) (sp_law_frac (sg * n) (b * (b + n)) s4 (by omega) (b1000 hbs)))
  obtain ⟨t1, s5, g1, hs5, q1⟩ := sp_sum_turned (a := 21) (N := 400) (by decide) ((List.range n).map (tel sg b)) (by simpa using hn) (by simp; omega) (by decide) (fun x hx => by
    obtain ⟨i, hi, rfl⟩ := List.mem_map.mp hx
    exact tel_sz hsg (by omega) (by omega) i (by have := List.mem_range.mp hi; omega)) s4 hs4
  rw [List.map_map, tel_sum sg b (by omega)] at *
  obtain ⟨d4, s6, k6, m4, hs6⟩ := c_pick (ds := [.tuple [.int 1, .int 2], .tuple [.int (0 - 1), .int 3], .tuple [.int 2, .int 3], .tuple [.int 3, .int 7], .tuple [.int (0 - 5), .int 4]]) (e0 [.im (.int sg), .im (.list ((List.range n).map (fr ∘ tel sg b))), .im (fr (Rat.divInt (sg * n) (b * (b + n)))), .im (.int n), .un, .un, .im (.int b), .un, .un]) (mCons_of _ (c_tup (c_two (c_i 1) (c_i 2)) (by simp)) (mCons_of _ (c_tup (c_two (c_sub (c_i 0) (c_i 1)) (c_i 3)) (by simp)) (mCons_of _ (c_tup (c_two (c_i 2) (c_i 3)) (by simp)) (mCons_of _ (c_tup (c_two (c_i 3) (c_i 7)) (by simp)) (c_one (c_tup (c_two (c_sub (c_i 0) (c_i 5)) (c_i 4)) (by simp))))))) hs5 (by simp) (by simp)
  have hd4 : ∃ T B : Int, d4 = .tuple [.int T, .int B] ∧ TB T B := by
    simp only [List.mem_cons, List.not_mem_nil, or_false] at m4
    rcases m4 with rfl | rfl | rfl | rfl | rfl <;> exact ⟨_, _, rfl, by decide, by decide, by decide, by decide, by decide⟩
  obtain ⟨T, B, rfl, hTB⟩ := hd4
  have a6 := c_asg2 (i := 8) (j := 9) k6
  obtain ⟨v1, s7, k7, v10, v11, hs7⟩ := c_draw (m := mC (.int 60)) (e0 [.im (.int sg), .im (.list ((List.range n).map (fr ∘ tel sg b))), .im (fr (Rat.divInt (sg * n) (b * (b + n)))), .im (.int n), .un, .un, .im (.int b), .im (.int T), .im (.int B)]) rfl hs6 (by omega) (b1000 (by omega))
  obtain ⟨m, rfl⟩ : ∃ m : Nat, v1 = (m : Int) := ⟨v1.toNat, by omega⟩
  have hm60 : m ≤ 60 := by omega
  have a7 := c_set (i := 4) k7
  obtain ⟨o1, e8⟩ := geo_part hTB (.im (.dict [])) (.im (.int sg)) (.im (.list ((List.range n).map (fr ∘ tel sg b)))) (.im (fr (Rat.divInt (sg * n) (b * (b + n))))) .un .un (.im (.int b)) m hm60 s7
  have a10 : mSet 6 (mF (mLst (mCons (mC (.int 1)) (mCons (mC (.int 1)) mNil)))) [.im (.dict []), .im (.int sg), .ow ((List.range m).map fun i => fr (geo T B i)), .im (fr (Rat.divInt (sg * n) (b * (b + n)))), .im (.int m), o1, .un, .im (.int b), .im (.int T), .im (.int B)] s7 = some (.nx [.im (.dict []), .im (.int sg), .ow ((List.range m).map fun i => fr (geo T B i)), .im (fr (Rat.divInt (sg * n) (b * (b + n)))), .im (.int m), o1, .im (.list [.int (T ^ 0), .int (B ^ 0)]), .im (.int b), .im (.int T), .im (.int B)] s7) := by
    rw [Int.pow_zero, Int.pow_zero]
    exact c_set (lst_of (c_two rfl rfl) (by simp))
  obtain ⟨o2, e11⟩ := wh_loop hTB (.im (.dict [])) (.im (.int sg)) (.ow ((List.range m).map fun i => fr (geo T B i))) (.im (fr (Rat.divInt (sg * n) (b * (b + n))))) (.im (.int m)) (.im (.int b)) s7 m 0 o1 (by omega)
  have rg1 : mRg1 (mCons (mVar 4) mNil) [.im (.dict []), .im (.int sg), .ow ((List.range m).map fun i => fr (geo T B i)), .im (fr (Rat.divInt (sg * n) (b * (b + n)))), .im (.int m), o1, .im (.list [.int (T ^ 0), .int (B ^ 0)]), .im (.int b), .im (.int T), .im (.int B)] s7 = some (seqI ((0 : Nat) : Int) m, s7) := by
    rw [mRg1_of (c_one (c_var (i := 4) rfl)) (rgOk_of (by omega) (by omega) (by omega) (by omega)), rg_ints]
    congr 2
  rw [Nat.zero_add] at e11
  have hTm := pow_small hTB.t7 hm60
  have hBm := pow_small (T := B) (by have := hTB.b; have := hTB.b7; omega) hm60
  have hb2 := hTB.b
  have hb7 := hTB.b7
  have ht7 := hTB.t7
  have hne := hTB.ne
  have hBm0 : B ^ m ≠ 0 := Int.pow_ne_zero (by omega)
  have hd0 : B ^ m * (B - T) ≠ 0 := Int.mul_ne_zero hBm0 (by omega)
  have hds : (B ^ m * (B - T)).natAbs < 2 ^ 400 := by
    rw [Int.natAbs_mul]
    exact Nat.lt_of_lt_of_le (Nat.mul_lt_mul'' (c := 2 ^ 180) (d := 2 ^ 4) hBm (by omega)) (by rw [← Nat.pow_add]; exact Nat.pow_le_pow_right (by decide) (by decide))
  have hdif : (B ^ m - T ^ m).natAbs < 2 ^ 181 := by omega
  have w0 : ∀ env : Env, env[6]? = some (.im (.list [.int (T ^ m), .int (B ^ m)])) → mOp ixD (mVar 6) (mC (.int 0)) env s7 = some (.int (T ^ m), s7) := fun env h => c_op (c_var h) rfl (by simp [ixD, L2.atI, L2.ixN])
  have w1 : ∀ env : Env, env[6]? = some (.im (.list [.int (T ^ m), .int (B ^ m)])) → mOp ixD (mVar 6) (mC (.int 1)) env s7 = some (.int (B ^ m), s7) := fun env h => c_op (c_var h) rfl (by simp [ixD, L2.atI, L2.ixN])
  have a12 := c_set (i := 3) (c_call (c_two (c_mul (c_sub (w1 [.im (.dict []), .im (.int sg), .ow ((List.range m).map fun i => fr (geo T B i)), .im (fr (Rat.divInt (sg * n) (b * (b + n)))), .im (.int m), o2, .im (.list [.int (T ^ m), .int (B ^ m)]), .im (.int b), .im (.int T), .im (.int B)] rfl) (w0 _ rfl)) (b := mVar 9) rfl (mulOk_of (a := 181) (b := 4) hdif (by omega) (by decide) (by decide) (by decide)))
    (c_mul (w1 _ rfl) (c_sub (a := mVar 9) (b := mVar 8) rfl rfl) (mulOk_of (a := 180) (b := 5) hBm (by omega) (by decide) (by decide) (by decide)))) (sp_law_frac _ _ s7 hd0 (b1000 hds)))
  obtain ⟨t2, s8, g2, hs8, q2⟩ := sp_sum_turned (a := 180) (N := 60) (by decide) ((List.range m).map (geo T B)) (by simpa using hm60) (by simp; omega) (by decide) (fun x hx => by
    obtain ⟨i, hi, rfl⟩ := List.mem_map.mp hx
    exact hTB.sz i (by have := List.mem_range.mp hi; omega)) s7 hs7
  rw [geo_sum T B (by omega) hne, List.map_map] at *
  refine ⟨s8, mFun1_of (n := 9) ((mSeq_nx a1).trans ((mSeq_nx a2).trans ((mSeq_nx a3).trans ((mSeq_nx a4).trans ((mSeq_nx (e1 := [.im (.dict []), .im (.int sg), .im (.list ((List.range n).map (fr ∘ tel sg b))), .im (fr (Rat.divInt (sg * n) (b * (b + n)))), .im (.int n), .un, .un, .im (.int b), .un, .un]) (s1 := s5) (c_frz rfl (guard_last (c_nt (c_sum rfl rfl rfl rfl g1 (q1 s5)))))).trans ((mSeq_nx a6).trans ((mSeq_nx a7).trans ((e8 _).trans ((mSeq_nx a10).trans ((mSeq_nx ((mFor_of rg1).trans e11)).trans ((mSeq_nx a12).trans (c_frz rfl (c_ret (c_sum rfl rfl rfl rfl g2 (q2 s8))))))))))))))), hs8⟩
end DL
set_option Elab.async false
set_option linter.all false
set_option maxRecDepth 100000
set_option maxHeartbeats 2000000
set_option exponentiation.threshold 20000
namespace DL
open PySem
/-! the mathematics, part 28: wrong_right -/
theorem sameA_int (i : Int) (s : S) : φA__law_same [.int i, .int i] s = some (.bool true, s) := by
  unfold φA__law_same mA__law_same
  simp [mFun, mSeq, mSet, mIte, mT, mOp, mVar, mC, mRet, mCall, mCons, mNil, mNext, mUn, mTup, mB, mAnd, mOr, mNot, tmAnd, tmOr, tmNot, mIf, negD, ev_eqI, ev_neI, ev_fr0, ev_fr1, ev_add, ev_sub, ev_gt, ev_lt, mIsi, tyN, kb1, kb2, kb3, kb4, isD, isNone, ev_eqB]
theorem ev_eqS {a : Str} (h : PyData.strOk a = true) : eqD (.str a) (.str a) = some (.bool true) := by
  simp [eqD, okEq, plain, SeqAt.shaped, PyData.canLay0, PyData.depth, PyData.eqv, h]
theorem sameA_str {a : Str} (h : PyData.strOk a = true) (s : S) : φA__law_same [.str a, .str a] s = some (.bool true, s) := by
  unfold φA__law_same mA__law_same
  simp [mFun, mSeq, mSet, mIte, mT, mOp, mVar, mC, mRet, mCall, mCons, mNil, mNext, mUn, mTup, mB, mAnd, mOr, mNot, tmAnd, tmOr, tmNot, mIf, negD, ev_eqI, ev_neI, ev_fr0, ev_fr1, ev_add, ev_sub, ev_gt, ev_lt, mIsi, tyN, kb13, kb14, isD, isNone, ev_eqB, ev_eqS h]
def Bad (v : D) : Prop := ∀ s : S, φ_is_integer [v] s = some (.bool false, s)
theorem bad_top {v : D} (h : Bad v) (b : D) (s : S) : ψ_frac [v, b] s = some (("InvalidFraction" : Str), .int 0, s) := by
  unfold ψ_frac mR_frac
  simp [mFun, mSeq, mSet, mIte, mT, mOp, mVar, mC, mRet, mCall, mCons, mNil, mNext, mUn, mTup, mB, mAnd, mOr, mNot, tmAnd, tmOr, tmNot, mIf, negD, ev_eqI, ev_neI, ev_fr0, ev_fr1, ev_add, ev_sub, ev_gt, ev_lt, mFunR, h s, mRaise]
theorem bad_bot {v : D} (h : Bad v) (i : Int) (s : S) : ψ_frac [.int i, v] s = some (("InvalidFraction" : Str), .int 1, s) := by
  unfold ψ_frac mR_frac
  simp [mFun, mSeq, mSet, mIte, mT, mOp, mVar, mC, mRet, mCall, mCons, mNil, mNext, mUn, mTup, mB, mAnd, mOr, mNot, tmAnd, tmOr, tmNot, mIf, negD, ev_eqI, ev_neI, ev_fr0, ev_fr1, ev_add, ev_sub, ev_gt, ev_lt, mFunR, h s, sp_is_int, mRaise]
theorem bad_zero (i : Int) (s : S) : ψ_frac [.int i, .int 0] s = some (("InvalidFraction" : Str), .int 1, s) := by
  unfold ψ_frac mR_frac
  simp [mFun, mSeq, mSet, mIte, mT, mOp, mVar, mC, mRet, mCall, mCons, mNil, mNext, mUn, mTup, mB, mAnd, mOr, mNot, tmAnd, tmOr, tmNot, mIf, negD, ev_eqI, ev_neI, ev_fr0, ev_fr1, ev_add, ev_sub, ev_gt, ev_lt, mFunR, sp_is_int, mRaise]
theorem over_zero (d : D) (s : S) : ψ_over [d, .tuple [.int 0, .int 1]] s = some (("Refused" : Str), .str "zero", s) := by
  unfold ψ_over mR_over
  simp [mFun, mSeq, mSet, mIte, mT, mOp, mVar, mC, mRet, mCall, mCons, mNil, mNext, mUn, mTup, mB, mAnd, mOr, mNot, tmAnd, tmOr, tmNot, mIf, negD, ev_eqI, ev_neI, ev_fr0, ev_fr1, ev_add, ev_sub, ev_gt, ev_lt, mFunR, mRaise, ixD, L2.atI, L2.ixN]
theorem zok : PyData.strOk "zero" = true := by decide +kernel
noncomputable abbrev wT : SM := (mTryF 6 5 "InvalidFraction" φA__law_same (eCallK 1 1 gIn ψ_frac (mCons (mVar 3) mNil) (mCons (mVar 4) mNil)))
theorem wr_step (x0 x1 x2 o3 o4 o5 o6 : Sl) {t b : D} {a : Int} (h : ∀ s, ψ_frac [t, b] s = some (("InvalidFraction" : Str), .int a, s)) (rest : List D) (s : S) :
    forL (gT 3 (gsCons (gN 3) (gsCons (gN 4) (gsCons (gN 5) gsNil)))) wT (.tuple [t, b, .int a] :: rest) [x0, x1, x2, o3, o4, o5, o6] s = forL (gT 3 (gsCons (gN 3) (gsCons (gN 4) (gsCons (gN 5) gsNil)))) wT rest [x0, x1, x2, .im t, .im b, .im (.int a), .un] s := by
  have e1 : eCallK 1 1 gIn ψ_frac (mCons (mVar 3) mNil) (mCons (mVar 4) mNil) [x0, x1, x2, .im t, .im b, .im (.int a), o6] s = some (("InvalidFraction" : Str), .int a, s) := by
    simp [eCallK, mCons, mVar, mNil, gIn, h s]
  have e2 : wT [x0, x1, x2, .im t, .im b, .im (.int a), o6] s = some (.nx [x0, x1, x2, .im t, .im b, .im (.int a), .un] s) := by
    simp [wT, mTryF, e1, sameA_int]
  simp [forL, gT, gsCons, gsNil, gN, e2]
noncomputable abbrev wO : SM := (mFor (mItems (mTup (mCons (mTup (mCons (mVar 2) (mCons (mC (.int 3)) (mCons (mC (.int 0)) mNil)))) (mCons (mTup (mCons (mVar 2) (mCons (mC (.int 0)) (mCons (mC (.int 0)) mNil)))) (mCons (mTup (mCons (mC (.int 7)) (mCons (mVar 2) (mCons (mC (.int 1)) mNil)))) (mCons (mTup (mCons (mVar 2) (mCons (mVar 2) (mCons (mC (.int 0)) mNil)))) (mCons (mTup (mCons (mOp ixD (mVar 1) (mC (.int 0))) (mCons (mC (.int 0)) (mCons (mC (.int 1)) mNil)))) mNil))))))) (gT 3 (gsCons (gN 3) (gsCons (gN 4) (gsCons (gN 5) gsNil)))) wT)
theorem c_items {m : EM D} {env : Env} {s s1 : S} {ds : List D} (h : m env s = some (.tuple ds, s1)) : mItems m env s = some (ds, s1) := by
  simp [mItems, h, seqD]
theorem c_three {a b c : EM D} {env : Env} {s s1 s2 s3 : S} {x y z : D} (h : a env s = some (x, s1)) (h2 : b env s1 = some (y, s2)) (h3 : c env s2 = some (z, s3)) : mCons a (mCons b (mCons c mNil)) env s = some ([x, y, z], s3) := mCons_of a h (c_two h2 h3)
theorem wr_outer (x0 o2 o3 o4 o5 o6 : Sl) (x : Rat) {v : D} (h : Bad v) (rest : List D) (s : S) : ∃ o3' o4' o5' : Sl,
    forL (gN 2) wO (v :: rest) [x0, .im (fr x), o2, o3, o4, o5, o6] s = forL (gN 2) wO rest [x0, .im (fr x), .im v, o3', o4', o5', .un] s := by
  have q0 : mOp ixD (mVar 1) (mC (.int 0)) [x0, .im (fr x), .im v, o3, o4, o5, o6] s = some (.int x.num, s) := c_op (c_var rfl) rfl (ev_fr0 x)
  have e1 : mItems (mTup (mCons (mTup (mCons (mVar 2) (mCons (mC (.int 3)) (mCons (mC (.int 0)) mNil)))) (mCons (mTup (mCons (mVar 2) (mCons (mC (.int 0)) (mCons (mC (.int 0)) mNil)))) (mCons (mTup (mCons (mC (.int 7)) (mCons (mVar 2) (mCons (mC (.int 1)) mNil)))) (mCons (mTup (mCons (mVar 2) (mCons (mVar 2) (mCons (mC (.int 0)) mNil)))) (mCons (mTup (mCons (mOp ixD (mVar 1) (mC (.int 0))) (mCons (mC (.int 0)) (mCons (mC (.int 1)) mNil)))) mNil)))))) [x0, .im (fr x), .im v, o3, o4, o5, o6] s =
      some ([.tuple [v, .int 3, .int 0], .tuple [v, .int 0, .int 0], .tuple [.int 7, v, .int 1], .tuple [v, v, .int 0], .tuple [.int x.num, .int 0, .int 1]], s) := by
    refine c_items (c_tup (mCons_of _ (c_tup (c_three rfl rfl rfl) (by simp)) (mCons_of _ (c_tup (c_three rfl rfl rfl) (by simp)) (mCons_of _ (c_tup (c_three rfl rfl rfl) (by simp)) (c_two (c_tup (c_three rfl rfl rfl) (by simp)) (c_tup (c_three q0 rfl rfl) (by simp)))))) (by simp))
  have e2 : wO [x0, .im (fr x), .im v, o3, o4, o5, o6] s = some (.nx [x0, .im (fr x), .im v, .im (.int x.num), .im (.int 0), .im (.int 1), .un] s) := by
    refine (mFor_of e1).trans ?_
    rw [wr_step _ _ _ _ _ _ _ (bad_top h _), wr_step _ _ _ _ _ _ _ (bad_top h _), wr_step _ _ _ _ _ _ _ (bad_bot h _), wr_step _ _ _ _ _ _ _ (bad_top h _), wr_step _ _ _ _ _ _ _ (bad_zero _)]
    rfl
  refine ⟨.im (.int x.num), .im (.int 0), .im (.int 1), ?_⟩
  show (gN 2 v [x0, .im (fr x), o2, o3, o4, o5, o6]).bind _ = _
  simp only [gN, Option.bind_some, List.set_cons_succ, List.set_cons_zero, e2]
theorem sp_wrong_right (x : Rat) (s : S) : φ__law_wrong_right [.dict [], fr x] s = some (.bool true, s) := by
  have e1 : mItems (mTup (mCons (mC .none) (mCons (mC (.bool true)) (mCons (mC (.str "1")) (mCons (mTup (mCons (mC (.int 1)) (mCons (mC (.int 2)) mNil))) (mCons (mF (mLst (mCons (mC (.int 3)) mNil))) mNil)))))) [.im (.dict []), .im (fr x), .un, .un, .un, .un, .un] s =
      some ([.none, .bool true, .str "1", .tuple [.int 1, .int 2], .list [.int 3]], s) :=
    c_items (c_tup (mCons_of _ rfl (mCons_of _ rfl (mCons_of _ rfl (c_two (c_tup (c_two rfl rfl) (by simp)) (lst_of (c_one rfl) (by simp)))))) (by simp))
  obtain ⟨a1, b1, c1, f1⟩ := wr_outer (.im (.dict [])) .un .un .un .un .un x (v := .none) sp_is_none [.bool true, .str "1", .tuple [.int 1, .int 2], .list [.int 3]] s
  obtain ⟨a2, b2, c2, f2⟩ := wr_outer (.im (.dict [])) (.im .none) a1 b1 c1 .un x (v := .bool true) (sp_is_bool true) [.str "1", .tuple [.int 1, .int 2], .list [.int 3]] s
  obtain ⟨a3, b3, c3, f3⟩ := wr_outer (.im (.dict [])) (.im (.bool true)) a2 b2 c2 .un x (v := .str "1") (sp_is_str _) [.tuple [.int 1, .int 2], .list [.int 3]] s
  obtain ⟨a4, b4, c4, f4⟩ := wr_outer (.im (.dict [])) (.im (.str "1")) a3 b3 c3 .un x (v := .tuple [.int 1, .int 2]) (sp_is_tup _) [.list [.int 3]] s
  obtain ⟨a5, b5, c5, f5⟩ := wr_outer (.im (.dict [])) (.im (.tuple [.int 1, .int 2])) a4 b4 c4 .un x (v := .list [.int 3]) (sp_is_lst _) [] s
  have f := f1.trans (f2.trans (f3.trans (f4.trans f5)))
  refine mFun2_of (n := 5) ((mSeq_nx ((mFor_of e1).trans f)).trans ((guard_of (s1 := s) ?_).trans ?_))
  · have k : mRefused φA__law_same (eCall ψ_over (mCons (mVar 1) (mCons (mTup (mCons (mC (.int 0)) (mCons (mC (.int 1)) mNil))) mNil))) (mC (.str "zero")) [.im (.dict []), .im (fr x), .im (.list [.int 3]), a5, b5, c5, .un] s = some (.bool true, s) := by
      have k1 : mCons (mVar 1) (mCons (mTup (mCons (mC (.int 0)) (mCons (mC (.int 1)) mNil))) mNil) [.im (.dict []), .im (fr x), .im (.list [.int 3]), a5, b5, c5, .un] s = some ([fr x, .tuple [.int 0, .int 1]], s) := c_two rfl (c_tup (c_two rfl rfl) (by simp))
      simp [mRefused, mC, eCall, k1, over_zero, sameA_str zok]
    exact c_nt k
  · have k : mRefused φA__law_same (eCallK 0 2 gSw ψ_over mNil (mCons (mTup (mCons (mC (.int 0)) (mCons (mC (.int 1)) mNil))) (mCons (mTup (mCons (mC (.int 0)) (mCons (mC (.int 1)) mNil))) mNil))) (mC (.str "zero")) [.im (.dict []), .im (fr x), .im (.list [.int 3]), a5, b5, c5, .un] s = some (.bool true, s) := by
      have k1 : mCons (mTup (mCons (mC (.int 0)) (mCons (mC (.int 1)) mNil))) (mCons (mTup (mCons (mC (.int 0)) (mCons (mC (.int 1)) mNil))) mNil) [.im (.dict []), .im (fr x), .im (.list [.int 3]), a5, b5, c5, .un] s = some ([.tuple [.int 0, .int 1], .tuple [.int 0, .int 1]], s) := c_two (c_tup (c_two rfl rfl) (by simp)) (c_tup (c_two rfl rfl) (by simp))
      simp [mRefused, mC, eCallK, mNil, k1, gSw, over_zero, sameA_str zok]
    exact c_ret k
end DL
set_option Elab.async false
set_option linter.all false
set_option maxRecDepth 100000
set_option maxHeartbeats 2000000
set_option exponentiation.threshold 20000
namespace DL
open PySem
/-! the mathematics, part 29: the heap -/
theorem cut63 (ns : List Int) : cutD (ns.map PyData.int) none (some 63) = ((ns.drop (HT.sIx ns.length 0 none)).take (HT.sIx ns.length ns.length (some 63) - HT.sIx ns.length 0 none)).map PyData.int := by
  unfold cutD
  rw [List.length_map, List.map_take, List.map_drop]
def cell2 (c : Int) : Int := 2 * (if c < 0 then -c else c) + (if c < 0 then 1 else 0)
theorem ev_mulS2 (j : Int) : mulS (.int 2) (.int j) = some (.int (2 * j)) := by
  have h : decide ((-(2 ^ 64) < (2 : Int) ∧ (2 : Int) < 2 ^ 64) ∨ (-(2 ^ 64) < j ∧ j < 2 ^ 64)) = true := decide_eq_true (.inl ⟨by decide, by decide⟩)
  simp only [mulS, iiD, intD, h, if_true, Option.bind_some]
theorem lc_cells (env : Env) (h1 : 1 < env.length) (s : S) : ∀ cs : List Int,
    lcL (gN 1) tYesD (mOp addD (mOp mulS (mC (.int 2)) (mB absD (mCons (mVar 1) mNil))) (mB intD (mCons (mOp ltD (mVar 1) (mC (.int 0))) mNil))) env (cs.map .int) s = some ((cs.map cell2).map .int, s) := by
  intro cs
  induction cs with
  | nil => rfl
  | cons c cs ih =>
    have e1 : ∀ s : S, mVar 1 (env.set 1 (.im (.int c))) s = some (.int c, s) := fun s => c_var (by simp [h1])
    have e2 := c_add (c_op (f := mulS) (c_i 2) (c_bi (f := absD) (c_one (e1 s)) rfl) (ev_mulS2 _)) (c_bi (f := intD) (c_one (c_op (e1 s) (c_i 0) (ev_lt c 0))) rfl)
    have e3 : (2 * (if c < 0 then -c else c) + (if decide (c < 0) = true then 1 else 0) : Int) = cell2 c := by simp [cell2]
    rw [e3] at e2
    simp only [List.map_cons, lcL, gN, tYesD, Option.bind_some, if_true, e2, ih]
def stir1 (st c : Int) : Int := (st * 69621 + c.fmod 2147483563 + 43).fmod 2147483647
theorem stir_rng (st c : Int) : 0 ≤ stir1 st c ∧ stir1 st c < 2147483647 := ⟨Int.fmod_nonneg_of_pos _ (by decide), Int.fmod_lt_of_pos _ (by decide)⟩
theorem ev_mod {i j : Int} (h : j ≠ 0) : modD (.int i) (.int j) = some (.int (i.fmod j)) := by
  simp [modD, iiD, intD, h]
noncomputable abbrev stB : SM := (mSet 3 (mOp modD (mB intD (mCons (mOp addD (mOp addD (mOp mulD (mVar 3) (mC (.int 69621))) (mOp modD (mB intD (mCons (mVar 1) mNil)) (mC (.int 2147483563)))) (mC (.int 43))) mNil)) (mC (.int 2147483647))))
theorem stir_loop (x0 x2 : Sl) (s : S) : ∀ (cs : List Int) (o : Sl) (st : Int), 0 ≤ st → st < 2147483647 → ∃ (o' : Sl) (st' : Int), 0 ≤ st' ∧ st' < 2147483647 ∧
    forL (gN 1) stB (cs.map .int) [x0, o, x2, .im (.int st)] s = some (.nx [x0, o', x2, .im (.int st')] s) := by
  intro cs
  induction cs with
  | nil => intro o st h0 h1; exact ⟨o, st, h0, h1, rfl⟩
  | cons c cs ih =>
    intro o st h0 h1
    obtain ⟨r0, r1⟩ := stir_rng st c
    obtain ⟨o', st', g0, g1, e⟩ := ih (.im (.int c)) (stir1 st c) r0 r1
    refine ⟨o', st', g0, g1, ?_⟩
    have v3 : mVar 3 [x0, .im (.int c), x2, .im (.int st)] s = some (.int st, s) := rfl
    have v1 : mVar 1 [x0, .im (.int c), x2, .im (.int st)] s = some (.int c, s) := rfl
    have e1 := c_op (c_bi (f := intD) (c_one (c_add (c_add (c_mul v3 (c_i 69621) (mulOk_of (a := 64) (b := 64) (by omega) (by decide) (by decide) (by decide) (by decide))) (c_op (c_bi (f := intD) (c_one v1) rfl) (c_i 2147483563) (ev_mod (by decide)))) (c_i 43))) rfl) (c_i 2147483647) (ev_mod (by decide))
    have e2 : stB [x0, .im (.int c), x2, .im (.int st)] s = some (.nx [x0, .im (.int c), x2, .im (.int (stir1 st c))] s) := c_set e1
    simp only [List.map_cons, forL, gN, Option.bind_some, List.set_cons_succ, List.set_cons_zero, e2, e]
theorem ev_pow18 : powD (.int 10) (.int 18) = some (.int 1000000000000000000) := ev_pow (i := 10) (j := 18) (by omega) (by omega) ten_lt
theorem lc_great (env : Env) (h1 : 1 < env.length) (s : S) : ∀ cs : List Int, ∃ ds : List Int, ds.length ≤ cs.length ∧
    lcL (gN 1) (mT (mOp geD (mVar 1) (mOp powD (mC (.int 10)) (mC (.int 18))))) (mOp modD (mB intD (mCons (mVar 1) mNil)) (mOp mulD (mOp mulD (mOp mulD (mOp powD (mC (.int 10)) (mC (.int 60))) (mOp powD (mC (.int 10)) (mC (.int 60)))) (mOp powD (mC (.int 10)) (mC (.int 60)))) (mOp powD (mC (.int 10)) (mC (.int 60))))) env (cs.map .int) s = some (ds.map .int, s) := by
  intro cs
  induction cs with
  | nil => exact ⟨[], Nat.le_refl _, rfl⟩
  | cons c cs ih =>
    obtain ⟨ds, hl, e⟩ := ih
    have e1 : ∀ s : S, mVar 1 (env.set 1 (.im (.int c))) s = some (.int c, s) := fun s => c_var (by simp [h1])
    have et := c_t (c_op (f := geD) (e1 s) (c_pow ev_pow18) (show geD (.int c) (.int 1000000000000000000) = some (.bool (decide (1000000000000000000 ≤ c))) by simp [ii0]))
    by_cases hc : 1000000000000000000 ≤ c
    · have p60 : ∀ (env : Env) (s : S), mOp powD (mC (.int 10)) (mC (.int 60)) env s = some (.int (10 ^ 60), s) := mop60
      have q : ((10 : Int) ^ 60).natAbs < 2 ^ 200 := by decide +kernel
      have q2 : ((10 : Int) ^ 60 * 10 ^ 60).natAbs < 2 ^ 400 := by decide +kernel
      have q3 : ((10 : Int) ^ 60 * 10 ^ 60 * 10 ^ 60).natAbs < 2 ^ 600 := by decide +kernel
      have q4 : ((10 : Int) ^ 60 * 10 ^ 60 * 10 ^ 60 * 10 ^ 60) ≠ 0 := by decide +kernel
      have e2 := c_op (c_bi (f := intD) (c_one (e1 s)) rfl) (c_mul (c_mul (c_mul (p60 _ s) (p60 _ s) (mulOk_of q q (by decide) (by decide) (by decide))) (p60 _ s) (mulOk_of q2 q (by decide) (by decide) (by decide))) (p60 _ s) (mulOk_of q3 q (by decide) (by decide) (by decide))) (ev_mod q4)
      generalize hz : c.fmod ((10 : Int) ^ 60 * 10 ^ 60 * 10 ^ 60 * 10 ^ 60) = z at e2
      refine ⟨z :: ds, by simp; omega, ?_⟩
      rw [decide_eq_true hc] at et
      simp only [List.map_cons, lcL, gN, Option.bind_some, et, if_true, e2, e]
    · refine ⟨ds, by simp; omega, ?_⟩
      rw [decide_eq_false hc] at et
      simp only [List.map_cons, lcL, gN, Option.bind_some, et, e]
      rfl
theorem sp_heap (ns : List Int) (hl : ns.length ≤ 63) : ∃ (env1 env2 : Env) (s1 s2 s3 : S) (st : Int) (cs : List Int), m1_heap [.im (.dict [(.none, .list (ns.map PyData.int))]), .un, .un, .un] ([], 0) = some (.nx env1 s1) ∧ m2_heap env1 s1 = some (.nx env2 s2) ∧
    mL_heap env2 s2 = some (cs.map PyData.int, s3) ∧ env2[3]? = some (.im (.int st)) ∧ SI (cs, st) := by
  have k0 : mSl (mVar 0) moN (moI (mC (.int 63))) [.im (.dict [(.none, .list (ns.map PyData.int))]), .un, .un, .un] ([], 0) = some (.list (cutD (ns.map PyData.int) none (some 63)), ([], 0)) := by
    simp [mSl, mVar, moN, moI, mC]
  rw [cut63] at k0
  generalize hms : (ns.drop (HT.sIx ns.length 0 none)).take (HT.sIx ns.length ns.length (some 63) - HT.sIx ns.length 0 none) = ms at k0
  have hml : ms.length ≤ 63 := by
    rw [← hms]
    simp
    omega
  have k1 : mItems (mSl (mVar 0) moN (moI (mC (.int 63)))) [.im (.dict [(.none, .list (ns.map PyData.int))]), .un, .un, .un] ([], 0) = some (ms.map PyData.int, ([], 0)) := by
    simp [mItems, k0, seqD]
  have k2 := c_lc (vs := [1]) (g := gN 1) (t := tYesD) k1 (by simp; omega) (lc_cells _ (by simp [wipeE]) ([], 0) ms)
  have k3 : m1_heap [.im (.dict [(.none, .list (ns.map PyData.int))]), .un, .un, .un] ([], 0) = some (.nx [.im (.dict [(.none, .list (ns.map PyData.int))]), .un, .ow ((ms.map cell2).map .int), .im (.int 15811)] ([], 0)) := by
    unfold m1_heap
    simp only [mPar2, mmL, mmE, mmNil, k2, mC, Option.bind_some, List.set_cons_succ, List.set_cons_zero]
  obtain ⟨o', st, g0, g1, e⟩ := stir_loop (.im (.dict [(.none, .list (ns.map PyData.int))])) (.im (.list ((ms.map cell2).map .int))) ([], 0) (ms.map cell2) .un 15811 (by decide) (by decide)
  have k4 : m2_heap [.im (.dict [(.none, .list (ns.map PyData.int))]), .un, .ow ((ms.map cell2).map .int), .im (.int 15811)] ([], 0) = some (.nx [.im (.dict [(.none, .list (ns.map PyData.int))]), o', .im (.list ((ms.map cell2).map .int)), .im (.int st)] ([], 0)) := by
    unfold m2_heap
    refine c_frz rfl ((mFor_of (l := (ms.map cell2).map .int) (s1 := ([], 0)) ?_).trans e)
    simp [mItems, mVar, seqD]
  have k5 : mItems (mVar 2) [.im (.dict [(.none, .list (ns.map PyData.int))]), o', .im (.list ((ms.map cell2).map .int)), .im (.int st)] ([], 0) = some ((ms.map cell2).map .int, ([], 0)) := by
    simp [mItems, mVar, seqD]
  obtain ⟨ds, hd, e6⟩ := lc_great (wipeE [.im (.dict [(.none, .list (ns.map PyData.int))]), o', .im (.list ((ms.map cell2).map .int)), .im (.int st)] [1]) (by simp [wipeE]) ([], 0) (ms.map cell2)
  have k6 := c_lc (vs := [1]) k5 (by simp; omega) e6
  have k7 : mL_heap [.im (.dict [(.none, .list (ns.map PyData.int))]), o', .im (.list ((ms.map cell2).map .int)), .im (.int st)] ([], 0) = some (ds.reverse.map .int, ([], 0)) := by
    unfold mL_heap
    simp only [mRevL, k6, Option.bind_some, List.map_reverse]
  exact ⟨_, _, _, _, _, st, ds.reverse, k3, k4, k7, rfl, by simp at hd ⊢; omega, g0, g1⟩
end DL
set_option Elab.async false
set_option linter.all false
set_option maxRecDepth 100000
set_option maxHeartbeats 2000000
set_option exponentiation.threshold 20000
namespace DL
open PySem
/-! the mathematics, part 30: the law -/
noncomputable abbrev lawB : SM :=     (mSeq (mSet 3 (mCall φ__law_quotients (mCons (mVar 1) mNil)))
    (mSeq (mSet 4 (mOp ixD (mCall φ__law_neighbours (mCons (mVar 3) mNil)) (mOp subD (mB lenD (mCons (mVar 3) mNil)) (mC (.int 1)))))
    (mSeq (mIte (tmOr (tmNot (mT (mCall φ__law_neighbours_right (mCons (mVar 1) (mCons (mVar 3) mNil))))) (tmOr (tmNot (mT (mCall φ__law_forms_right (mCons (mVar 1) (mCons (mVar 4) mNil))))) (tmNot (mT (mCall φ__law_down_right (mCons (mVar 1) mNil))))))
    (mRet (mC (.bool false)))
    mNext)
    (mIte (tmOr (tmNot (mT (mCall φ__law_rows_right (mCons (mVar 1) mNil)))) (tmNot (mT (mCall φ__law_wrong_right (mCons (mVar 1) (mCons (mVar 4) mNil))))))
    (mRet (mC (.bool false)))
    mNext))))
theorem law_turn (t o3 o4 : Sl) (s : S) (hs : SI s) : ∃ (p3 p4 : Sl) (s' : S), lawB [.un, .im (.dict []), t, o3, o4] s = some (.nx [.un, .im (.dict []), t, p3, p4] s') ∧ SI s' := by
  obtain ⟨r, qs, z, s1, k1, hr, h1, h30, hq, hz, hzb, hs1⟩ := sp_quotients s hs
  obtain ⟨q, qs, rfl⟩ : ∃ q ps, qs = q :: ps := by
    cases qs with
    | nil => simp at h1
    | cons q ps => exact ⟨q, ps, rfl⟩
  have hr2 : r.natAbs < 2 ^ 201 := Nat.lt_of_le_of_lt hr (by decide +kernel)
  have hz2 : z.natAbs < 2 ^ 201 := Nat.lt_of_le_of_lt hzb (by decide +kernel)
  have hq2 : ∀ y ∈ q :: qs, 1 ≤ y ∧ y.natAbs < 2 ^ 201 := fun y m => ⟨(hq y m).1, Nat.lt_of_le_of_lt (hq y m).2 (by decide +kernel)⟩
  have hq3 : ∀ y ∈ (q :: qs) ++ [z], y.natAbs < 2 ^ 201 := by
    intro y m
    rcases List.mem_append.mp m with m | m
    · exact (hq2 y m).2
    · simp at m; subst m; exact hz2
  have hl40 : ((q :: qs) ++ [z]).length ≤ 38 := by simp at h30 ⊢; omega
  have n1 := sp_neighbours r ((q :: qs) ++ [z]) s1 hr2 hq3 (by omega)
  have hb := lst_big q qs z (fun y m => (hq2 y m).1) hz
  have gl := good_lst r ((q :: qs) ++ [z]) hr2 hq3 hl40 (by show 1 ≤ (lst q (qs ++ [z])).1; omega)
  have cl := cv_last r ((q :: qs) ++ [z])
  have hlen : (cv r ((q :: qs) ++ [z])).length = ((q :: qs) ++ [z]).length + 1 := by simp [cv, nb_len]
  obtain ⟨s2, k2, hs2⟩ := sp_neighbours_right r z q qs hr2 hz hz2 hq2 h30 s1 hs1
  obtain ⟨s3, k3, hs3⟩ := sp_forms_right (rt (lst r ((q :: qs) ++ [z]))) gl.sz s2 hs2
  obtain ⟨s4, k4, hs4⟩ := sp_down_right s3 hs3
  obtain ⟨s5, k5, hs5⟩ := sp_rows_right s4 hs4
  have k6 := sp_wrong_right (rt (lst r ((q :: qs) ++ [z]))) s5
  have a1 := c_set (i := 3) (c_call (c_one (c_var (i := 1) (env := [.un, .im (.dict []), t, o3, o4]) rfl)) k1)
  generalize hrow : PyData.list (.int r :: ((q :: qs) ++ [z]).map .int) = row at *
  have hlr : lenD [row] = some (.int (((q :: qs) ++ [z]).length + 1 : Nat)) := by
    rw [← hrow]
    simp [lenD]
  have ixl : ixD (.list ((cv r ((q :: qs) ++ [z])).map pr)) (.int (((((q :: qs) ++ [z]).length + 1 : Nat) : Int) - 1)) = some (fr (rt (lst r ((q :: qs) ++ [z])))) := by
    rw [gl.f.1]
    rw [hlen] at cl
    generalize cv r ((q :: qs) ++ [z]) = cs at *
    generalize ((q :: qs) ++ [z]).length = n at *
    have e : ((((n + 1 : Nat) : Int)) - 1) = (n : Int) := by omega
    rw [e]
    have hlt : n < cs.length := by omega
    have hv : cs[n]? = some (lst r (q :: qs ++ [z])) := cl
    have hv2 := (List.getElem?_eq_some_iff.mp hv).2
    simp [ixD, L2.atI, L2.ixN, hlt, hv2]
  generalize hx : rt (lst r ((q :: qs) ++ [z])) = x at *
  have a2 := c_set (i := 4) (c_op (f := ixD) (c_call (c_one (c_var (i := 3) (env := [.un, .im (.dict []), t, .im row, o4]) rfl)) n1) (c_sub (c_bi (f := lenD) (c_one (c_var (i := 3) rfl)) hlr) (c_i 1)) ixl)
  refine ⟨.im row, .im (fr x), s5, ?_, hs5⟩
  refine (mSeq_nx a1).trans ((mSeq_nx a2).trans ((guard_of (s1 := s4) ?_).trans (guard_last (s1 := s5) ?_)))
  · exact tmOr_ff (c_nt (c_call (c_two (c_var rfl) (c_var rfl)) k2)) (tmOr_ff (c_nt (c_call (c_two (c_var rfl) (c_var rfl)) k3)) (c_nt (c_call (c_one (c_var rfl)) k4)))
  · exact tmOr_ff (c_nt (c_call (c_one (c_var rfl)) k5)) (c_nt (c_call (c_two (c_var rfl) (c_var rfl)) k6))
theorem law_turns : ∀ (is : List D) (t o3 o4 : Sl) (s : S), SI s → ∃ (t' p3 p4 : Sl) (s' : S), forL (gN 2) lawB is [.un, .im (.dict []), t, o3, o4] s = some (.nx [.un, .im (.dict []), t', p3, p4] s') := by
  intro is
  induction is with
  | nil => intro t o3 o4 s _; exact ⟨t, o3, o4, s, rfl⟩
  | cons i is ih =>
    intro t o3 o4 s hs
    obtain ⟨p3, p4, s1, e1, hs1⟩ := law_turn (.im i) o3 o4 s hs
    obtain ⟨t', q3, q4, s', e2⟩ := ih (.im i) p3 p4 s1 hs1
    refine ⟨t', q3, q4, s', ?_⟩
    show (gN 2 i [.un, .im (.dict []), t, o3, o4]).bind _ = _
    simp only [gN, Option.bind_some, List.set_cons_succ, List.set_cons_zero, e1, e2]
theorem sp_law (s : S) (hs : SI s) : ∃ s', m_law [.un, .im (.dict []), .un, .un, .un] s = some (.rt (.bool true) s') := by
  obtain ⟨t', p3, p4, s', e⟩ := law_turns (rgD 0 3) .un .un .un s hs
  refine ⟨s', ?_⟩
  have r3 : mRg1 (mCons (mC (.int 3)) mNil) [.un, .im (.dict []), .un, .un, .un] s = some (rgD 0 3, s) := mRg1_of rfl (rgOk_of (by omega) (by omega) (by omega) (by omega))
  exact (mSeq_nx ((mFor_of r3).trans e)).trans rfl
end DL
set_option Elab.async false
set_option linter.all false
set_option maxRecDepth 100000
set_option maxHeartbeats 4000000
namespace DL
open PySem PySem.Spec PyProof.Rows L2
/-- the law's meaning on a script -/
def LawTrue (ns : List Int) : Prop := ∃ (env1 env2 : Env) (s1 s2 s3 s4 : S) (st : Int) (cs : List Int), m1_heap [.im (.dict [(.none, .list (ns.map PyData.int))]), .un, .un, .un] ([], 0) = some (.nx env1 s1) ∧ m2_heap env1 s1 = some (.nx env2 s2) ∧
  mL_heap env2 s2 = some (cs.map PyData.int, s3) ∧ env2[3]? = some (.im (.int st)) ∧ m_law [.un, .im (.dict []), .un, .un, .un] (cs, st) = some (.rt (.bool true) s4)
def spLaw (K : PySem.W.Frag) (TT : List (Addr × Str)) : Sp := fun vs H Q _ => ∃ (a : Addr) (ns : List Int), vs = [.ref a] ∧ LawTrue ns ∧ SqL K H a (ns.map V.int) ∧ (∀ t ∈ TT, H t.1 = some (.tbl #[])) ∧ ∀ H', Q (.bl true) H'
def noTab : Option HO → Option HO
  | some (.tbl _) => none
  | o => o
theorem noTab_some {o : Option HO} {u : HO} (h : noTab o = some u) : o = some u := by
  cases o with
  | none => cases h
  | some v => cases v <;> first | exact h | cases h
section
variable {P : Program} {w : World} {K : PySem.W.Frag} {mg : Str → Option Value} {base : Heap}
theorem ok_law (T : Txt P w K mg base) {f : Addr} {fd : FuncData} {TT : List (Addr × Str)} (F : FunD K "law" "law" (defArgs s_law) (defBody s_law) (defScope s_law) [] [] f fd) (WR : FcT P w K mg base TT 37 "_law_wrong_right" φ__law_wrong_right) :
    FnOk P w K mg base CX0 38 f fd ["script"] (spLaw K TT) := by
  obtain ⟨fh, fdh, Fh, gh⟩ := T.d__law_heap
  refine F.ok sc_law (fun vs H Q E q => ?_) (fun cdv A outer s H vs Q E hr q => ?_)
  · obtain ⟨a, ns, rfl, _⟩ := q
    rfl
  · obtain ⟨a, ns, rfl, ⟨env1, env2, s1, s2, s3, s4, st, cs, e1, e2, e3, e4, e5⟩, sq, tb, fin⟩ := q
    have k1 : PS (cxOf CX0 P w K mg base ["script", "heap", "turn", "row", "last"] "law" (defScope s_law) f cdv A outer s H E).nox ((defBody s_law).getD 0 (.Pass ⟨0, 0, 0, 0⟩)) (tAsg (tCall (spHeap K) [] E0 (tCons (tVar 0) tNil)) (gName 1)) :=
      ps_set (i := 1) sc_law.nd rfl (.inl rfl) (pe_call (ok__law_heap T Fh) (hr.mono (by decide)) rfl gh Fh.kp (Fh.bindsN fun _ _ _ _ _ _ us hl => match us, hl with | [_], _ => rfl) .nil pass0 (pa_cons (pv 0) pa_nil))
    have k2 : PSs (cxOf CX0 P w K mg base ["script", "heap", "turn", "row", "last"] "law" (defScope s_law) f cdv A outer s H E).nox ((defBody s_law).drop 1) (fun D σ H' => ∃ (h : Hd) (F0 H0 : Hp), (∃ a b, h = some (a, b, TT)) ∧ rdS K h F0 H0 mg (fun _ _ _ _ => False) m_law D σ H') :=
      ⟨fun pins s' σ H' D I ⟨h, F0, H0, hh, q⟩ => (rest_law T WR hh F0 H0 cdv f A outer s H E hr).run pins s' σ H' D I q⟩
    have k : PSs (cxOf CX0 P w K mg base ["script", "heap", "turn", "row", "last"] "law" (defScope s_law) f cdv A outer s H E).nox (defBody s_law) _ := pss_cons k1 k2
    refine ⟨_, k.nox, ?_⟩
    have nt : ∀ {u : HO}, H a = some u → (∀ ps, u ≠ .tbl ps) → noTab (H a) = some u := fun {u} e n => by
      rw [e]
      cases u <;> first | rfl | exact absurd rfl (n _)
    have tF : ∀ t ∈ TT, (if t.1 = a then noTab (H a) else none) = none := fun t ht => by
      split
      · rename_i z
        rw [← z, tb t ht]
        rfl
      · rfl
    refine ⟨.ref a, rfl, fun b => if b = a then noTab (H a) else none, a, ns, env1, env2, s1, s2, s3, st, cs, rfl, fun b o e => ?_, ?_, e1, e2, e3, e4, fun p q F' H' g npq np nq fp fq ep eq => ?_⟩
    · dsimp only at e
      split at e
      · rename_i hb
        rw [hb]
        exact noTab_some e
      · cases e
    · rcases sq with (sq | ⟨o, sq⟩) | sq
      · exact .inl (.inl (by dsimp only; rw [if_pos rfl]; exact nt sq fun _ z => nomatch z))
      · exact .inl (.inr ⟨o, by dsimp only; rw [if_pos rfl]; exact nt sq fun _ z => nomatch z⟩)
      · exact .inr sq
    · refine ⟨some (p, q, TT), F', H', ⟨p, q, rfl⟩, F', [.un, .im (.dict []), .un, .un, .un], (cs, st), _, ⟨rfl, fun i x ei => ?_, .refl g.fh, fun a' b' T' e => ?_, fun i ds p' ei _ => ?_, fun i j ds es p' _ ei => ?_⟩, e5, fun v H2 F2 g2 hd2 r2 => ?_⟩
      · match i, ei with
        | 0, ei =>
          cases ei
          exact ⟨_, rfl, trivial⟩
        | 1, ei =>
          cases ei
          exact ⟨_, rfl, .ref p, rfl, .hn rfl⟩
        | 2, ei =>
          cases ei
          exact ⟨_, rfl, trivial⟩
        | 3, ei =>
          cases ei
          exact ⟨_, rfl, trivial⟩
        | 4, ei =>
          cases ei
          exact ⟨_, rfl, trivial⟩
      · cases e
        have nh : ∀ z : Addr, ¬ isH none z := fun z ⟨_, _, _, e, _⟩ => nomatch e
        refine ⟨npq, fp, fq, ep, eq, fun t ht => ⟨g.nw t.1 (by rw [tb t ht]; exact fun z => nomatch z) (tF t ht), .nil (g.hh t.1 _ (nh _) (tb t ht))⟩⟩
      · match i, ei with
        | 0, ei => cases ei
        | 1, ei => cases ei
        | 2, ei => cases ei
        | 3, ei => cases ei
        | 4, ei => cases ei
      · match i, ei with
        | 0, ei => cases ei
        | 1, ei => cases ei
        | 2, ei => cases ei
        | 3, ei => cases ei
        | 4, ei => cases ei
      · cases r2
        exact fin H2
end
end DL
namespace DL
theorem law_all (ns : List Int) (hl : ns.length ≤ 63) (hb : ∀ z ∈ ns, PySem.Builtin.Int.intBits z ≤ 1048576) : LawTrue ns := by
  obtain ⟨env1, env2, s1, s2, s3, st, cs, k1, k2, k3, k4, hs⟩ := sp_heap ns hl
  obtain ⟨s4, e⟩ := sp_law (cs, st) hs
  exact ⟨env1, env2, s1, s2, s3, s4, st, cs, k1, k2, k3, k4, e⟩
end DL
set_option Elab.async false
set_option linter.all false
set_option maxRecDepth 100000
set_option maxHeartbeats 0
namespace Hd
open PySem PySem.Spec PyProof.Rows L2 DL
def e_is_integer : He.DefD := ⟨("is_integer", none), "is_integer", "is_integer", defArgs s_is_integer, defBody s_is_integer, defScope s_is_integer, [], []⟩
def e_divisor_of : He.DefD := ⟨("divisor_of", none), "divisor_of", "divisor_of", defArgs s_divisor_of, defBody s_divisor_of, defScope s_divisor_of, [], []⟩
def e_is_fraction : He.DefD := ⟨("is_fraction", none), "is_fraction", "is_fraction", defArgs s_is_fraction, defBody s_is_fraction, defScope s_is_fraction, [], []⟩
def e_lowest : He.DefD := ⟨("lowest", none), "lowest", "lowest", defArgs s_lowest, defBody s_lowest, defScope s_lowest, [], []⟩
def e_frac : He.DefD := ⟨("frac", none), "frac", "frac", defArgs s_frac, defBody s_frac, defScope s_frac, [], []⟩
def e_added : He.DefD := ⟨("added", none), "added", "added", defArgs s_added, defBody s_added, defScope s_added, [], []⟩
def e_less : He.DefD := ⟨("less", none), "less", "less", defArgs s_less, defBody s_less, defScope s_less, [], []⟩
def e_times : He.DefD := ⟨("times", none), "times", "times", defArgs s_times, defBody s_times, defScope s_times, [], []⟩
def e_over : He.DefD := ⟨("over", none), "over", "over", defArgs s_over, defBody s_over, defScope s_over, [], []⟩
def e_compared : He.DefD := ⟨("compared", none), "compared", "compared", defArgs s_compared, defBody s_compared, defScope s_compared, [], []⟩
def e_size_of : He.DefD := ⟨("size_of", none), "size_of", "size_of", defArgs s_size_of, defBody s_size_of, defScope s_size_of, [], []⟩
def e_greatest_of : He.DefD := ⟨("greatest_of", none), "greatest_of", "greatest_of", defArgs s_greatest_of, defBody s_greatest_of, defScope s_greatest_of, [], []⟩
def e_least_of : He.DefD := ⟨("least_of", none), "least_of", "least_of", defArgs s_least_of, defBody s_least_of, defScope s_least_of, [], []⟩
def e_sum_of : He.DefD := ⟨("sum_of", none), "sum_of", "sum_of", defArgs s_sum_of, defBody s_sum_of, defScope s_sum_of, [], []⟩
def e_floor_of : He.DefD := ⟨("floor_of", none), "floor_of", "floor_of", defArgs s_floor_of, defBody s_floor_of, defScope s_floor_of, [], []⟩
def e_down_to : He.DefD := ⟨("down_to", none), "down_to", "down_to", defArgs s_down_to, defBody s_down_to, defScope s_down_to, [], []⟩
def e__law_heap : He.DefD := ⟨("_law_heap", none), "_law_heap", "_law_heap", defArgs s__law_heap, defBody s__law_heap, defScope s__law_heap, [], []⟩
def e__law_draw : He.DefD := ⟨("_law_draw", none), "_law_draw", "_law_draw", defArgs s__law_draw, defBody s__law_draw, defScope s__law_draw, [], []⟩
def e__law_pick : He.DefD := ⟨("_law_pick", none), "_law_pick", "_law_pick", defArgs s__law_pick, defBody s__law_pick, defScope s__law_pick, [], []⟩
def e__law_same : He.DefD := ⟨("_law_same", none), "_law_same", "_law_same", defArgs s__law_same, defBody s__law_same, defScope s__law_same, [], []⟩
def e__law_refused : He.DefD := ⟨("_law_refused", none), "_law_refused", "_law_refused", defArgs s__law_refused, defBody s__law_refused, defScope s__law_refused, [], []⟩
def e__law_gcd : He.DefD := ⟨("_law_gcd", none), "_law_gcd", "_law_gcd", defArgs s__law_gcd, defBody s__law_gcd, defScope s__law_gcd, [], []⟩
def e__law_frac : He.DefD := ⟨("_law_frac", none), "_law_frac", "_law_frac", defArgs s__law_frac, defBody s__law_frac, defScope s__law_frac, [], []⟩
def e__law_is_frac : He.DefD := ⟨("_law_is_frac", none), "_law_is_frac", "_law_is_frac", defArgs s__law_is_frac, defBody s__law_is_frac, defScope s__law_is_frac, [], []⟩
def e__law_quotients : He.DefD := ⟨("_law_quotients", none), "_law_quotients", "_law_quotients", defArgs s__law_quotients, defBody s__law_quotients, defScope s__law_quotients, [], []⟩
def e__law_neighbours : He.DefD := ⟨("_law_neighbours", none), "_law_neighbours", "_law_neighbours", defArgs s__law_neighbours, defBody s__law_neighbours, defScope s__law_neighbours, [], []⟩
def e__law_turned : He.DefD := ⟨("_law_turned", none), "_law_turned", "_law_turned", defArgs s__law_turned, defBody s__law_turned, defScope s__law_turned, [], []⟩
def e__law_back : He.DefD := ⟨("_law_back", none), "_law_back", "_law_back", defArgs s__law_back, defBody s__law_back, defScope s__law_back, [], []⟩
def e__law_neighbours_right : He.DefD := ⟨("_law_neighbours_right", none), "_law_neighbours_right", "_law_neighbours_right", defArgs s__law_neighbours_right, defBody s__law_neighbours_right, defScope s__law_neighbours_right, [], []⟩
def e__law_forms_right : He.DefD := ⟨("_law_forms_right", none), "_law_forms_right", "_law_forms_right", defArgs s__law_forms_right, defBody s__law_forms_right, defScope s__law_forms_right, [], []⟩
def e__law_rows_right : He.DefD := ⟨("_law_rows_right", none), "_law_rows_right", "_law_rows_right", defArgs s__law_rows_right, defBody s__law_rows_right, defScope s__law_rows_right, [], []⟩
def e__law_down_right : He.DefD := ⟨("_law_down_right", none), "_law_down_right", "_law_down_right", defArgs s__law_down_right, defBody s__law_down_right, defScope s__law_down_right, [], []⟩
def e__law_wrong_right : He.DefD := ⟨("_law_wrong_right", none), "_law_wrong_right", "_law_wrong_right", defArgs s__law_wrong_right, defBody s__law_wrong_right, defScope s__law_wrong_right, [], []⟩
def e_law : He.DefD := ⟨("law", none), "law", "law", defArgs s_law, defBody s_law, defScope s_law, [], []⟩
def fn : List He.DefD := [e_is_integer, e_divisor_of, e_is_fraction, e_lowest, e_frac, e_added, e_less, e_times, e_over, e_compared, e_size_of, e_greatest_of, e_least_of, e_sum_of, e_floor_of, e_down_to, e__law_heap, e__law_draw, e__law_pick, e__law_same, e__law_refused, e__law_gcd, e__law_frac, e__law_is_frac, e__law_quotients, e__law_neighbours, e__law_turned, e__law_back, e__law_neighbours_right, e__law_forms_right, e__law_rows_right, e__law_down_right, e__law_wrong_right, e_law]
def fa : List He.Fa := [.glo "is_integer", .glo "divisor_of", .glo "is_fraction", .glo "lowest", .glo "frac", .glo "added", .glo "less", .glo "times", .glo "over", .glo "compared", .glo "size_of", .glo "greatest_of", .glo "least_of", .glo "sum_of", .glo "floor_of", .glo "down_to", .glo "_law_heap", .glo "_law_draw", .glo "_law_pick", .glo "_law_same", .glo "_law_refused", .glo "_law_gcd", .glo "_law_frac", .glo "_law_is_frac", .glo "_law_quotients", .glo "_law_neighbours", .glo "_law_turned", .glo "_law_back", .glo "_law_neighbours_right", .glo "_law_forms_right", .glo "_law_rows_right", .glo "_law_down_right", .glo "_law_wrong_right", .glo "law", .glo "ShrinksError", .glo "Refused", .glo "InvalidFraction", .free "ValueError", .free "abs", .free "all", .free "bool", .free "enumerate", .free "int", .free "isinstance", .free "len", .free "list", .free "range", .free "str", .free "super", .free "tuple"]
def tf : List He.Defn := [("_law_wrong_right", none)]
def ins : List Str := ["Refused", "InvalidFraction"]
def clsInit (st : Stmt) : Stmt := match st with
  | .ClassDef _ _ _ body _ _ _ _ _ _ _ => body.getD 0 (.Pass ⟨0, 0, 0, 0⟩)
  | s => s
abbrev i_Refused : Stmt := clsInit (top 2)
abbrev i_InvalidFraction : Stmt := clsInit (top 3)
def vals : List InW := [some ("__init__", "Refused.__init__", defArgs i_Refused, .stmts (defBody i_Refused), defScope i_Refused, mainGlobals, builtinsNs), some ("__init__", "InvalidFraction.__init__", defArgs i_InvalidFraction, .stmts (defBody i_InvalidFraction), defScope i_InvalidFraction, mainGlobals, builtinsNs)]
def ex (K : PySem.W.Frag) : Bool := seerB K && (excB K PySem.Challenge.pw_shrinksanyhow_k00_whole_fractions_by_clo.main.file (He.ga K "Refused") (He.ma K (He.ga K "Refused") "__init__") && (excB K PySem.Challenge.pw_shrinksanyhow_k00_whole_fractions_by_clo.main.file (He.ga K "InvalidFraction") (He.ma K (He.ga K "InvalidFraction") "__init__") && (xfB K (He.ga K "Refused") && (decide (PySem.W.exmOne K (.ref (He.ga K "Refused")) (.ref (He.ga K "Refused")) = some true) && (xfB K (He.ga K "InvalidFraction") && (decide (PySem.W.exmOne K (.ref (He.ga K "InvalidFraction")) (.ref (He.ga K "InvalidFraction")) = some true) && (ecB K (He.ga K "InvalidFraction") && (decide (PySem.W.kitOne K (.ref (He.ga K "InvalidFraction")) (.ref (He.ga K "ShrinksError")) = some true) && (decide (PySem.W.kitOne K (.ref (He.ga K "InvalidFraction")) (.ref (He.ga K "Refused")) = some false))))))))))
abbrev R : PySem.W.OpenRow := PySem.W.OpenLaw.row PySem.Challenge.rw_shrinksanyhow_k00_whole_fractions_by_clo
abbrev hk : PySem.W.Hook := hookY 4 fa fn tf ins vals ex
def ob (s : PySem.W.SharedT) : AlY := obsY 4 fa fn tf ins ex (HandSHeadRun.getT s)
theorem ob_eq (s : PySem.W.SharedT) : ob s = hk.obs s.abs := obsY_eq (vals := vals) (HandSHeadRun.getT_eq s)
def names0 : List PySem.Str := [("ShrinksError" : PySem.Str), ("Refused" : PySem.Str), ("InvalidFraction" : PySem.Str), ("is_integer" : PySem.Str), ("divisor_of" : PySem.Str), ("is_fraction" : PySem.Str), ("lowest" : PySem.Str), ("frac" : PySem.Str), ("added" : PySem.Str), ("less" : PySem.Str), ("times" : PySem.Str), ("over" : PySem.Str), ("compared" : PySem.Str), ("size_of" : PySem.Str), ("greatest_of" : PySem.Str), ("least_of" : PySem.Str), ("sum_of" : PySem.Str), ("floor_of" : PySem.Str), ("down_to" : PySem.Str), ("_law_heap" : PySem.Str), ("_law_draw" : PySem.Str), ("_law_pick" : PySem.Str), ("_law_same" : PySem.Str), ("_law_refused" : PySem.Str), ("_law_gcd" : PySem.Str), ("_law_frac" : PySem.Str), ("_law_is_frac" : PySem.Str), ("_law_quotients" : PySem.Str), ("_law_neighbours" : PySem.Str), ("_law_turned" : PySem.Str), ("_law_back" : PySem.Str), ("_law_neighbours_right" : PySem.Str), ("_law_forms_right" : PySem.Str), ("_law_rows_right" : PySem.Str), ("_law_down_right" : PySem.Str)]
def names1 : List PySem.Str := [("_law_wrong_right" : PySem.Str)]
abbrev names : List PySem.Str := names0 ++ names1
theorem run (w : World) : HandSHeadRun.RunEq R (PySem.W.view R.prog [40]) hk ob 4000 names w := by
  intro os
  kernel_rfl
section
variable {P : Program} {w : World} {K : PySem.W.Frag} {mg : Str → Option Value} {base : Heap}
theorem ex_Refused {C f : Addr} {fd : FuncData} (E : ExcD P K C (defArgs i_Refused) (defBody i_Refused) (defScope i_Refused) "Refused.__init__" f fd) (hm : mg "Refused" = some (.ref C)) (hs : mg "super" = none) : ExcOk P w K mg base "Refused" := by
  refine ⟨C, f, fd, hm, E.oex, E.iC, E.tI, exc_init_ok E ⟨rfl, rfl, rfl, by decide +kernel, rfl, rfl, rfl, rfl, by decide +kernel⟩ _ (fun _ => rfl) hs rfl rfl, ?_⟩
  obtain ⟨name, dV, kV, doc, pm, an, cda, ct, cc, oc, od, osl, rfl, _⟩ := E.init
  have hd : dV = .none := E.nod
  subst hd
  exact Binds.all fun us hl => match us, hl with | [_, _], _ => rfl
theorem ex_InvalidFraction {C f : Addr} {fd : FuncData} (E : ExcD P K C (defArgs i_InvalidFraction) (defBody i_InvalidFraction) (defScope i_InvalidFraction) "InvalidFraction.__init__" f fd) (hm : mg "InvalidFraction" = some (.ref C)) (hs : mg "super" = none) : ExcOk P w K mg base "InvalidFraction" := by
  refine ⟨C, f, fd, hm, E.oex, E.iC, E.tI, exc_init_ok E ⟨rfl, rfl, rfl, by decide +kernel, rfl, rfl, rfl, rfl, by decide +kernel⟩ _ (fun _ => rfl) hs rfl rfl, ?_⟩
  obtain ⟨name, dV, kV, doc, pm, an, cda, ct, cc, oc, od, osl, rfl, _⟩ := E.init
  have hd : dV = .none := E.nod
  subst hd
  exact Binds.all fun us hl => match us, hl with | [_, _], _ => rfl
theorem txt {h : Heap} (X : K.In h) (G : h.Ns mainGlobals mg) (hP : P.main.file = PySem.Challenge.pw_shrinksanyhow_k00_whole_fractions_by_clo.main.file) (ht : P.given.tree = none) (htop : (P.main.scope.names.lookup ("super" : Str)).isSome = false) {h' : Heap} (c : SaysY fa fn tf ins vals ex h' K) : Txt P w K mg base := by
  have m := c.more
  obtain ⟨b0, m⟩ := an m
  obtain ⟨b1, m⟩ := an m
  obtain ⟨b2, m⟩ := an m
  obtain ⟨b3, m⟩ := an m
  obtain ⟨b4, m⟩ := an m
  obtain ⟨b5, m⟩ := an m
  obtain ⟨b6, m⟩ := an m
  obtain ⟨b7, m⟩ := an m
  obtain ⟨b8, m⟩ := an m
  have b9 := m
  have hs : mg "super" = none := He.free_ok X G (c.d.fact 48 rfl)
  have v0 : inW K (He.ma K (He.ga K "Refused") "__init__") = (some ("__init__", "Refused.__init__", defArgs i_Refused, FuncBody.stmts (defBody i_Refused), defScope i_Refused, mainGlobals, builtinsNs) : InW) := by
    have q : (ins.map (fun x => inW K (He.ma K (He.ga K x) "__init__")))[0]? = vals[0]? := by rw [c.i]
    exact Option.some.inj q
  obtain ⟨fd0, E0⟩ := excB_ok (P := P) (by rw [hP]; exact b1) v0 htop
  have v1 : inW K (He.ma K (He.ga K "InvalidFraction") "__init__") = (some ("__init__", "InvalidFraction.__init__", defArgs i_InvalidFraction, FuncBody.stmts (defBody i_InvalidFraction), defScope i_InvalidFraction, mainGlobals, builtinsNs) : InW) := by
    have q : (ins.map (fun x => inW K (He.ma K (He.ga K x) "__init__")))[1]? = vals[1]? := by rw [c.i]
    exact Option.some.inj q
  obtain ⟨fd1, E1⟩ := excB_ok (P := P) (by rw [hP]; exact b2) v1 htop
  exact {
    tree := ht
    seer := seerB_ok b0
    cR := ⟨_, He.glo_ok X G (c.d.fact 35 rfl), xfB_ok b3, E0.noAt, of_decide_eq_true b4⟩
    t_InvalidFraction := ⟨_, He.glo_ok X G (c.d.fact 36 rfl), xfB_ok b5, E1.noAt, of_decide_eq_true b6, ecB_ok b7, ⟨_, He.glo_ok X G (c.d.fact 34 rfl), of_decide_eq_true b8⟩, ⟨_, He.glo_ok X G (c.d.fact 35 rfl), of_decide_eq_true b9⟩⟩
    x_Refused := ex_Refused E0 (He.glo_ok X G (c.d.fact 35 rfl)) hs
    x_InvalidFraction := ex_InvalidFraction E1 (He.glo_ok X G (c.d.fact 36 rfl)) hs
    d_is_integer := let ⟨fd, F⟩ := c.d.def_ 0 (d := e_is_integer) rfl; ⟨_, fd, F, He.glo_ok X G (c.d.fact 0 rfl)⟩
    d_divisor_of := let ⟨fd, F⟩ := c.d.def_ 1 (d := e_divisor_of) rfl; ⟨_, fd, F, He.glo_ok X G (c.d.fact 1 rfl)⟩
    d_is_fraction := let ⟨fd, F⟩ := c.d.def_ 2 (d := e_is_fraction) rfl; ⟨_, fd, F, He.glo_ok X G (c.d.fact 2 rfl)⟩
    d_lowest := let ⟨fd, F⟩ := c.d.def_ 3 (d := e_lowest) rfl; ⟨_, fd, F, He.glo_ok X G (c.d.fact 3 rfl)⟩
    d_frac := let ⟨fd, F⟩ := c.d.def_ 4 (d := e_frac) rfl; ⟨_, fd, F, He.glo_ok X G (c.d.fact 4 rfl)⟩
    d_added := let ⟨fd, F⟩ := c.d.def_ 5 (d := e_added) rfl; ⟨_, fd, F, He.glo_ok X G (c.d.fact 5 rfl)⟩
    d_less := let ⟨fd, F⟩ := c.d.def_ 6 (d := e_less) rfl; ⟨_, fd, F, He.glo_ok X G (c.d.fact 6 rfl)⟩
    d_times := let ⟨fd, F⟩ := c.d.def_ 7 (d := e_times) rfl; ⟨_, fd, F, He.glo_ok X G (c.d.fact 7 rfl)⟩
    d_over := let ⟨fd, F⟩ := c.d.def_ 8 (d := e_over) rfl; ⟨_, fd, F, He.glo_ok X G (c.d.fact 8 rfl)⟩
    d_compared := let ⟨fd, F⟩ := c.d.def_ 9 (d := e_compared) rfl; ⟨_, fd, F, He.glo_ok X G (c.d.fact 9 rfl)⟩
    d_size_of := let ⟨fd, F⟩ := c.d.def_ 10 (d := e_size_of) rfl; ⟨_, fd, F, He.glo_ok X G (c.d.fact 10 rfl)⟩
    d_greatest_of := let ⟨fd, F⟩ := c.d.def_ 11 (d := e_greatest_of) rfl; ⟨_, fd, F, He.glo_ok X G (c.d.fact 11 rfl)⟩
    d_least_of := let ⟨fd, F⟩ := c.d.def_ 12 (d := e_least_of) rfl; ⟨_, fd, F, He.glo_ok X G (c.d.fact 12 rfl)⟩
    d_sum_of := let ⟨fd, F⟩ := c.d.def_ 13 (d := e_sum_of) rfl; ⟨_, fd, F, He.glo_ok X G (c.d.fact 13 rfl)⟩
    d_floor_of := let ⟨fd, F⟩ := c.d.def_ 14 (d := e_floor_of) rfl; ⟨_, fd, F, He.glo_ok X G (c.d.fact 14 rfl)⟩
    d_down_to := let ⟨fd, F⟩ := c.d.def_ 15 (d := e_down_to) rfl; ⟨_, fd, F, He.glo_ok X G (c.d.fact 15 rfl)⟩
    d__law_heap := let ⟨fd, F⟩ := c.d.def_ 16 (d := e__law_heap) rfl; ⟨_, fd, F, He.glo_ok X G (c.d.fact 16 rfl)⟩
    d__law_draw := let ⟨fd, F⟩ := c.d.def_ 17 (d := e__law_draw) rfl; ⟨_, fd, F, He.glo_ok X G (c.d.fact 17 rfl)⟩
    d__law_pick := let ⟨fd, F⟩ := c.d.def_ 18 (d := e__law_pick) rfl; ⟨_, fd, F, He.glo_ok X G (c.d.fact 18 rfl)⟩
    d__law_same := let ⟨fd, F⟩ := c.d.def_ 19 (d := e__law_same) rfl; ⟨_, fd, F, He.glo_ok X G (c.d.fact 19 rfl)⟩
    d__law_refused := let ⟨fd, F⟩ := c.d.def_ 20 (d := e__law_refused) rfl; ⟨_, fd, F, He.glo_ok X G (c.d.fact 20 rfl)⟩
    d__law_gcd := let ⟨fd, F⟩ := c.d.def_ 21 (d := e__law_gcd) rfl; ⟨_, fd, F, He.glo_ok X G (c.d.fact 21 rfl)⟩
    d__law_frac := let ⟨fd, F⟩ := c.d.def_ 22 (d := e__law_frac) rfl; ⟨_, fd, F, He.glo_ok X G (c.d.fact 22 rfl)⟩
    d__law_is_frac := let ⟨fd, F⟩ := c.d.def_ 23 (d := e__law_is_frac) rfl; ⟨_, fd, F, He.glo_ok X G (c.d.fact 23 rfl)⟩
    d__law_quotients := let ⟨fd, F⟩ := c.d.def_ 24 (d := e__law_quotients) rfl; ⟨_, fd, F, He.glo_ok X G (c.d.fact 24 rfl)⟩
    d__law_neighbours := let ⟨fd, F⟩ := c.d.def_ 25 (d := e__law_neighbours) rfl; ⟨_, fd, F, He.glo_ok X G (c.d.fact 25 rfl)⟩
    d__law_turned := let ⟨fd, F⟩ := c.d.def_ 26 (d := e__law_turned) rfl; ⟨_, fd, F, He.glo_ok X G (c.d.fact 26 rfl)⟩
    d__law_back := let ⟨fd, F⟩ := c.d.def_ 27 (d := e__law_back) rfl; ⟨_, fd, F, He.glo_ok X G (c.d.fact 27 rfl)⟩
    d__law_neighbours_right := let ⟨fd, F⟩ := c.d.def_ 28 (d := e__law_neighbours_right) rfl; ⟨_, fd, F, He.glo_ok X G (c.d.fact 28 rfl)⟩
    d__law_forms_right := let ⟨fd, F⟩ := c.d.def_ 29 (d := e__law_forms_right) rfl; ⟨_, fd, F, He.glo_ok X G (c.d.fact 29 rfl)⟩
    d__law_rows_right := let ⟨fd, F⟩ := c.d.def_ 30 (d := e__law_rows_right) rfl; ⟨_, fd, F, He.glo_ok X G (c.d.fact 30 rfl)⟩
    d__law_down_right := let ⟨fd, F⟩ := c.d.def_ 31 (d := e__law_down_right) rfl; ⟨_, fd, F, He.glo_ok X G (c.d.fact 31 rfl)⟩
    d__law_wrong_right := let ⟨fd, F⟩ := c.d.def_ 32 (d := e__law_wrong_right) rfl; ⟨_, fd, F, He.glo_ok X G (c.d.fact 32 rfl)⟩
    d_law := let ⟨fd, F⟩ := c.d.def_ 33 (d := e_law) rfl; ⟨_, fd, F, He.glo_ok X G (c.d.fact 33 rfl)⟩
    b_ValueError := He.free_ok X G (c.d.fact 37 rfl)
    b_abs := He.free_ok X G (c.d.fact 38 rfl)
    b_all := He.free_ok X G (c.d.fact 39 rfl)
    b_bool := He.free_ok X G (c.d.fact 40 rfl)
    b_enumerate := He.free_ok X G (c.d.fact 41 rfl)
    b_int := He.free_ok X G (c.d.fact 42 rfl)
    b_isinstance := He.free_ok X G (c.d.fact 43 rfl)
    b_len := He.free_ok X G (c.d.fact 44 rfl)
    b_list := He.free_ok X G (c.d.fact 45 rfl)
    b_range := He.free_ok X G (c.d.fact 46 rfl)
    b_str := He.free_ok X G (c.d.fact 47 rfl)
    b_super := He.free_ok X G (c.d.fact 48 rfl)
    b_tuple := He.free_ok X G (c.d.fact 49 rfl)
  }
end
theorem law_at {w : World} {K : PySem.W.Frag} {mg : Str → Option Value} {h : Heap} {f : Addr} (X : K.In h) (G : h.Ns mainGlobals mg) (c : SaysY fa fn tf ins vals ex h K) (hmg : mg "law" = some (.ref f)) : LamX.LawAtS PySem.Challenge.rw_shrinksanyhow_k00_whole_fractions_by_clo w K CX0 38 63 "script" mg f h := by
  obtain ⟨fdw, Fw⟩ := c.d.def_ 32 (d := e__law_wrong_right) rfl
  obtain ⟨fdl, Fl⟩ := c.d.def_ 33 (d := e_law) rfl
  have gl := He.glo_ok X G (c.d.fact 33 rfl)
  rw [hmg] at gl
  cases gl
  obtain ⟨oc, od, dV, kV, doc, pm, an, cdv, ct, osl, e1, lk, hcd, _, _⟩ := Fw.ex
  obtain ⟨cw, ecw⟩ := He.codeIn_ref hcd
  have hcode : fdw.code = .ref cw := by rw [e1]; exact ecw
  have hct : He.cT K ("_law_wrong_right", none) = (cw, He.tabOf K cw) := by
    unfold He.cT
    rw [He.codeOf_eq (p := ("_law_wrong_right", none)) lk hcode]
  have mem : (("_law_wrong_right", none) : He.Defn) ∈ tf := by unfold tf; exact List.mem_singleton.mpr rfl
  have k1 := c.hd _ mem
  have k2 := c.out _ mem
  have k3 := c.empty _ mem
  rw [hct] at k1 k2 k3
  refine ⟨fdl, [(cw, He.tabOf K cw)], spLaw K [(He.tabOf K cw, q__law_wrong_right)], fun p hp => ?_, fun p hp => ?_, fun p hp => ?_, fun s u => (FunD.bindsA (ps := ["script"]) Fl fun _ _ _ _ _ _ us hl => match us, hl with | [_], _ => rfl) s [u] rfl, fun H a ns hl hb hT hS => ?_, fun base hK hN hTB => ?_⟩
  · obtain rfl := List.mem_singleton.mp hp
    exact k3
  · obtain rfl := List.mem_singleton.mp hp
    exact k2
  · obtain rfl := List.mem_singleton.mp hp
    exact PySem.W.codeHd_of_K X k1
  · exact ⟨a, ns, rfl, law_all ns hl hb, hS, fun t ht => by
      obtain rfl := List.mem_singleton.mp ht
      exact hT (cw, He.tabOf K cw) (List.mem_singleton.mpr rfl), fun _ => rfl⟩
  · have T : Txt (PySem.Challenge.rw_shrinksanyhow_k00_whole_fractions_by_clo).prog w K mg base := txt X G rfl rfl (by rfl) c
    have TB := hTB (cw, He.tabOf K cw) (List.mem_singleton.mpr rfl)
    have WR : FcT (PySem.Challenge.rw_shrinksanyhow_k00_whole_fractions_by_clo).prog w K mg base [(He.tabOf K cw, q__law_wrong_right)] 37 "_law_wrong_right" φ__law_wrong_right :=
      ⟨_, fdw, _, okT__law_wrong_right T Fw TB hcode (List.mem_singleton.mpr rfl) (fun t ht _ => by rw [List.mem_singleton.mp ht]), He.glo_ok X G (c.d.fact 32 rfl), Fw.kp, Fw.bindsN fun _ _ _ _ _ _ us hl => match us, hl with | [_, _], _ => rfl⟩
    exact ok_law T Fl WR
end Hd
open PySem PySem.W PySem.Calls PyProof.Rows
theorem PySem.Challenge.cw_shrinksanyhow_k00_whole_fractions_by_clo_holds : PySem.Challenge.rw_shrinksanyhow_k00_whole_fractions_by_clo.Holds := by
  w_on; o_law
  refine HandSHeadRun.head_any (r := OpenLaw.row PySem.Challenge.rw_shrinksanyhow_k00_whole_fractions_by_clo) (q := view (OpenLaw.row PySem.Challenge.rw_shrinksanyhow_k00_whole_fractions_by_clo).prog [40]) (H := Hd.hk) (ob := Hd.ob) (M := 4000) (loose := Hd.names) (d := HandSHeadRun.topDef (OpenLaw.row PySem.Challenge.rw_shrinksanyhow_k00_whole_fractions_by_clo).prog 40) (kwd := []) Hd.ob_eq
    (by kernel_rfl) (fun s => by kernel_rfl) Hd.run (by kernel_rfl) (by kernel_rfl) (by kernel_rfl) (by rfl) (by first | assumption | decide +kernel) (by decide +kernel) ⟨rfl, rfl, rfl, rfl, rfl, by decide +kernel⟩ ?hw ?hc
  case hw => w_witness2
  case hc =>
    refine LamX.walk_ofTsE (l := PySem.Challenge.rw_shrinksanyhow_k00_whole_fractions_by_clo) (n := 63) (k := 38) (x := "script") (CX := fun _ => L2.CX0) rfl (by decide) (by kernel_rfl) ⟨rfl, by decide, by decide⟩ ?F (fun _ _ _ _ _ z => z)
    intro w mg fa h Y G hmg0
    obtain ⟨K, KX, c⟩ := Y
    have hmg : mg ("law" : PySem.Str) = some (.ref fa) := by
      have e : (HandSHeadRun.topDef (OpenLaw.row PySem.Challenge.rw_shrinksanyhow_k00_whole_fractions_by_clo).prog 40).name = ("law" : PySem.Str) := by kernel_rfl
      rw [← e]
      exact hmg0
    exact ⟨K, KX, Hd.law_at KX G c hmg⟩
