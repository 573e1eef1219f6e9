import PyProof.Rows.All
import Wide.All
import OpenK.AllK
import Wide.FinOn
import HandS.ForMost
import HandS.ForExc
import HandS.Codes
import HandS.SetKeys
import HandS.IsInst
import HandS.Star
import HandS.ExcInit
import HandS.ExcField
import HandS.ExcIs
import HandS.More
import HandS.TupAny
import KE.KExcSuper
import KE.KSuper
import PyProof.Draws
import PyProof.EnumMake
import PySem.Challenge.RW_treesfromyes_k87_turner_fits_or_clash
set_option Elab.async false
set_option linter.all false
set_option maxRecDepth 100000
set_option maxHeartbeats 4000000
namespace TZ
open PySem L2
/-! ### a def with one free name, its class: an exception's __init__ that begins with super().__init__("..") -/
theorem lookup_of_mem {l : List (Str × Value)} {y : Str} {u : Value} (nd : (l.map (·.1)).Nodup) (h : (y, u) ∈ l) : l.lookup y = some u := by
  induction l with
  | nil => cases h
  | cons p r ih =>
    obtain ⟨x, v⟩ := p
    rw [List.map_cons, List.nodup_cons] at nd
    rcases List.mem_cons.mp h with e | hm
    · cases e
      simp [List.lookup]
    · have ne : y ≠ x := fun z => nd.1 (by rw [← z]; exact List.mem_map_of_mem (f := (·.1)) hm)
      have b : (y == x) = false := by simpa using ne
      simp only [List.lookup, b]
      exact ih nd.2 hm
theorem zip_keys {ps : List Str} {us : List Value} (hl : us.length = ps.length) : (ps.zip us).map (·.1) = ps := by
  rw [List.map_fst_zip]
  omega
theorem rev_zip {ps : List Str} {us : List Value} {i : Nat} {y : Str} {u : Value} (nd : ps.Nodup) (hl : us.length = ps.length) (hp : ps[i]? = some y) (hu : us[i]? = some u) : (ps.zip us).reverse.lookup y = some u := by
  refine lookup_of_mem ?_ (List.mem_reverse.mpr ?_)
  · rw [List.map_reverse, zip_keys hl]
    exact (List.reverse_perm ps).symm.nodup nd
  · have : (ps.zip us)[i]? = some (y, u) := by
      rw [List.getElem?_zip_eq_some]
      exact ⟨hp, hu⟩
    exact List.mem_of_getElem? this
structure ScF (N ps : List Str) (sc : Scope) : Prop where
  kind : sc.kind = .function
  co : sc.isCoroutine = false
  gen : sc.isGenerator = false
  nd : N.Nodup
  pre : N.take ps.length = ps
  par : ∀ x ∈ ps, sc.names.lookup x = some .local
  nocell : ∀ y ∈ sc.names, y.2 ≠ .cell
  free : ∀ y ∈ sc.names, y.2 = .free → y.1 = ("__class__" : Str)
abbrev cxF (P : Program) (w : World) (K : PySem.W.Frag) (mg : Str → Option Value) (base : Heap) (N : List Str) (qual : Str) (scope : Scope) (f cc : Addr) (cd : Value) (A : Around) (outer : List Env) (s : Shared) (H : Hp) : Cx where
  prog := P
  w := w
  K := K
  mg := mg
  base := base
  A := A.deeper (PySem.W.ksEnv qual scope s.heap.objs.size f cd cc)
  N := N
  s_0 := s
  H_0 := H
  env := PySem.W.ksEnv qual scope s.heap.objs.size f cd cc
  outer := outer
  stack := PySem.W.ksEnv qual scope s.heap.objs.size f cd cc :: outer
  ex := []
  calm := true
  fn := fun _ => false
  pn := []
  xe := fun _ _ => False
theorem inv_f {P : Program} {w : World} {K : PySem.W.Frag} {mg : Str → Option Value} {base : Heap} {N ps : List Str} {qual : Str} {scope : Scope} {f cc : Addr} {cd : Value} {A : Around} {outer : List Env} {s : Shared} {h1 : Heap} {tk : Nat} {H : Hp} {us : List Value} {vs : List V} {oc : Obj} {cv : Option Value}
    (S : ScF N ps scope) (hd : A.handled = none) (e0 : Env0 P w K mg base A outer s H) (hl : vs.length = ps.length) (r : Vals vs us) (lc : K.lookup cc = some oc) (oc1 : oc.data = .cell cv)
    (hns : h1.Ns s.heap.objs.size (fun x => (ps.zip us).reverse.lookup x)) (hk : ∀ b o, s.heap.get? b = some o → h1.get? b = some o) :
    Inv (cxF P w K mg base N qual scope f cc cd A outer s H) [] (L2.start N vs) H { s with heap := h1, toks := tk } := by
  have hpl : ps.length ≤ N.length := by have := congrArg List.length S.pre; rw [List.length_take] at this; omega
  have hus : us.length = ps.length := by rw [← r.length]; exact hl
  have noA : ∀ b : Addr, b ∉ (cxF P w K mg base N qual scope f cc cd A outer s H).ex := fun b z => absurd (show b ∈ ([] : List Addr) from z) (by simp)
  have cl : ∀ x c, ([(("__class__" : Str), cc)] : List (Str × Addr)).lookup x = some c → x = ("__class__" : Str) ∧ c = cc := fun x c h => by
    by_cases e : x = ("__class__" : Str)
    · subst e
      simp [List.lookup] at h
      exact ⟨rfl, h.symm⟩
    · have b : (x == ("__class__" : Str)) = false := by simpa using e
      simp [List.lookup, b] at h
  have ccb : base.get? cc = some oc := e0.mod.kin _ _ lc
  refine ⟨⟨e0.mod, S.kind, rfl, rfl, Nat.le_refl _, fun y z c h1 h2 => ?_, fun y hy => ?_, fun y c hf _ => ?_, fun _ => hd, Around.frames_deeper e0.frames, .inr ⟨rfl, rfl⟩, fun b z => absurd z (noA b), e0.bs, e0.bsz, fun b _ _ => noA b, fun b z => absurd z (noA b), e0.funs, e0.frf⟩,
    rfl, e0.bare, Un.kept hk, ⟨_, hns, fun i y v h1 h2 h3 => ?_⟩, fun y c h => ?_, e0.hok.fresh (Nat.le_refl _), fun y c h => ?_, fun p hp => absurd (show p ∈ ([] : List (Addr × Obj)) from hp) (by simp), e0.hok.kept hk, ?_⟩
  · exact (cl _ _ h1).1.trans (cl _ _ h2).1.symm
  · have hy : scope.names.lookup y = some .cell ∨ scope.names.lookup y = some .free := hy
    rcases hy with hy | hy
    · exact absurd rfl (S.nocell _ (PySem.mem_of_lookup hy))
    · have e := S.free _ (PySem.mem_of_lookup hy) rfl
      exact ⟨cc, by show ([(("__class__" : Str), cc)] : List (Str × Addr)).lookup y = some cc; rw [show y = ("__class__" : Str) from e]; simp [List.lookup]⟩
  · cases hf
  · have hi : i < vs.length := by
      unfold L2.start at h2
      by_cases hi : i < vs.length
      · exact hi
      · rw [List.getElem?_append_right (by simpa using hi)] at h2
        rw [List.getElem?_replicate] at h2
        split at h2 <;> cases h2
    have ha : vs[i]? = some v := by
      unfold L2.start at h2
      rw [List.getElem?_append_left (by simpa using hi), List.getElem?_map] at h2
      cases e : vs[i]? with
      | none => rw [e] at h2; cases h2
      | some a => rw [e] at h2; cases h2; rfl
    obtain ⟨u, hu, rv⟩ := r.get ha
    have hp : ps[i]? = some y := by
      rw [← S.pre, List.getElem?_take_of_lt (by omega)]; exact h1
    have ndP : ps.Nodup := by rw [← S.pre]; exact S.nd.sublist (List.take_sublist _ _)
    exact ⟨u, rv, .inl ⟨S.par y (List.mem_of_getElem? hp), rev_zip ndP hus hp hu⟩⟩
  · obtain ⟨_, e⟩ := cl _ _ h
    subst e
    exact ⟨cv, oc, hk _ _ (e0.bs _ _ ccb).1, oc1⟩
  · obtain ⟨_, e⟩ := cl _ _ h
    subst e
    exact (e0.bs _ _ ccb).2
  · unfold L2.start
    show _ = N.length
    rw [List.length_append, List.length_map, List.length_replicate]
    omega

/-- the method-wrapper called: the exception at e gets its arguments' tuple anew -/
theorem call_mw {prog : Program} {w : World} {A : Around} {E : Value → Shared → Prop} {h : Heap} {g : Array GenState} {d : Drawn} {t : Nat} {os : OsState} {nm q : Str} {C N : Addr} {bs bm : List Value} {hdct : Bool} {sn : List Str} {sub : List Value} {ab : Bool} {col : Option Bool} {dd : Option Addr} {k0 k1 k2 k3 k5 : Option Value}
    {u e t0 : Addr} {rest : List Value} {Q : Value → Shared → Prop}
    (hC : h.get? C = some (excClassObj nm q C N bs bm hdct sn sub ab col dd k0 k1 k2 k3 k5 "ValueError.__new__")) (he : h.get? e = some (PySem.HandSPX.excO C t0)) (hu : h.get? u = some (PySem.W.kxs_mw "ValueError.__init__" e)) (hz : rest.length ≤ sizeLine)
    (hq : ∀ h' t1, (∀ b o, b ≠ e → h.get? b = some o → h'.get? b = some o) → h'.get? e = some (PySem.HandSPX.excO C t1) → Q .none ⟨h', g, d, t, os⟩) :
    wpAny (model prog w) A (call (.ref u) rest) Q E ⟨h, g, d, t, os⟩ := by
  have FB := PySem.F.excBase_ValueError
  refine wpAny_call (codeAny_of_tree ?_)
  show wpAny _ A.in1 (callAny (.ref u) ⟨rest, []⟩) _ _ _
  simp only [callAny]
  refine wpAny_bind (wpAny_load hu ?_)
  simp only [PySem.W.kxs_mw, show (Value.type "method-wrapper" == Value.type "method" || Value.type "method-wrapper" == Value.type "builtin_function_or_method" || Value.type "method-wrapper" == Value.type "method-wrapper") = true by decide, if_true]
  refine PySem.W.KFB.if_so (by decide) ?_
  refine wpAny_bind (PySem.W.check_bound_init FB.toExcCallFacts hC he rfl ?_)
  refine wpAny_bind (wpAny_pure (wpAny_pure ?_))
  refine ⟨plainId_quiet FB.init.plain _, codeAny_builtin FB.initEntry ?_⟩
  exact PySem.W.exc_init_tree (cls := .ref C) (t0 := t0) (dv := none) (c2 := .none) (c3 := .none) (b4 := .bool false) he hz fun h' k e' _ => hq h' _ k e'

/-- what the top has left of an own error over ValueError whose __init__ begins with super().__init__("..") -/
structure SupC (P : Program) (K : PySem.W.Frag) (mg : Str → Option Value) (C cc : Addr) (cdv : Value) : Prop where
  oex : OexC K C
  cell : ∃ cl cld csl, K.lookup cc = some ⟨cl, cld, .cell (some (.ref C)), csl⟩
  code : ∃ cda ccl cdd vs ccs file tf, cdv = .ref cda ∧ K.lookup cda = some ⟨ccl, cdd, .fields vs, ccs⟩ ∧ vs[2]? = some (.str file tf) ∧ ((P.main.file : Str) == file) = true
  sup : PySem.W.ks_superIn K C C "__init__" = some (some (.builtin "ValueError.__init__"))
  sub : PySem.W.mroIn K C (.ref C) = some true
  subV : PySem.W.subIn K (.ref C) (.type "ValueError") = some true
  tp : PySem.W.nsIn K cStatics "thirdparty.any" = some none
  nos : mg "super" = none
  top : (P.main.scope.names.lookup ("super" : Str)).isSome = false
theorem sup_fn {P : Program} {w : World} {K : PySem.W.Frag} {mg : Str → Option Value} {base : Heap} {k : Nat} {f C cc : Addr} {qual : Str} {params : Arguments} {scope : Scope} {dV kV doc pm cdv ct oc : Value} {an od : Option Addr} {osl : Array (Option Value)}
    {N ps : List Str} {sp : Sp} {ar : Arg} {msg : Str} {j : Nat} {q0 q1 q2 q3 q4 q5 : Pos} {rest : List Stmt}
    (lk : K.lookup f = some ⟨oc, od, .func (PySem.W.ksFn "__init__" qual params (.Expr (.Call (.Attribute (.Call (.Name "super" q0) [] [] q1) "__init__" q2) [.Constant (.str msg) j q3] [] q4) q5 :: rest) scope dV kV doc pm an cdv ct cc), osl⟩)
    {pl : Env → Sem Bool}
    (he : ∀ env : Env, eval (.Call (.Attribute (.Call (.Name "super" q0) [] [] q1) "__init__" q2) [.Constant (.str msg) j q3] [] q4) env = (do
      let ov ← attributeBase (.Call (.Name "super" q0) [] [] q1) "__init__" env (eval (.Call (.Name "super" q0) [] [] q1) env)
      standAt q2.atName
      let (f, first) ← holding [ov] (getMethod ov "__init__" (pl env))
      callWith q4 f first (backTo q4 (starEach [.Constant (.str msg) j q3] env)) []))
    (hcd : PySem.W.codeIn K cdv qual = true) (S : ScF N ps scope) (T : SupC P K mg C cc cdv) (hp : (params.posonlyargs ++ params.args).head? = some ar) (hp0 : ps[0]? = some ar.arg)
    (hks : scope.names.lookup ("super" : Str) = some .globalImplicit) (hkc : scope.names.lookup ("__class__" : Str) = some .free)
    (len : ∀ vs H Q E, sp vs H Q E → vs.length = ps.length) (hsp0 : ∀ vs H Q E, sp vs H Q E → ∃ a us, vs = .ref a :: us ∧ H a = some (exo a C none))
    (hbody : ∀ (A : Around) (outer : List Env) (s : Shared) (H : Hp) (vs : List V) (Q : VK) (E : XK), Room k (A.deeper (PySem.W.ksEnv qual scope s.heap.objs.size f cdv cc)) → sp vs H Q E →
      ∃ t, PSs (cxF P w K mg base N qual scope f cc cdv A outer s H) rest t ∧ t { nx := fun _ H' => Q .non H', rt := Q } (L2.start N vs) H) :
    FnOk P w K mg base L2.CX0 (k + 1) f (PySem.W.ksFn "__init__" qual params (.Expr (.Call (.Attribute (.Call (.Name "super" q0) [] [] q1) "__init__" q2) [.Constant (.str msg) j q3] [] q4) q5 :: rest) scope dV kV doc pm an cdv ct cc) ps sp := by
  refine ⟨len, fun A outer s H args us vs Q E hr e0 hb r hsp => ?_⟩
  have hl := len _ _ _ _ hsp
  obtain ⟨a, us0, rfl, ha⟩ := hsp0 _ _ _ _ hsp
  have KX : K.In s.heap := e0.mod.kin.keeps fun b o e => (e0.bs b o e).1
  have lim : s.heap.NoLimit := e0.mod.nolimit.keeps fun b o e => (e0.bs b o e).1
  obtain ⟨cl, cld, csl, hcc⟩ := T.cell
  obtain ⟨cda, ccl, cdd, fvs, ccs, file, tf, rfl, hcode, hvs, hfile⟩ := T.code
  have hcl := T.oex.cls
  obtain ⟨nm, q, N0, bs, bm, sn, sub, ab, col, dd, k0, k1, k2, k3, k5, hC, hbm⟩ := hcl
  have hus : us.length = ps.length := by rw [← r.length]; exact hl
  refine PySem.ks_codeAny_call_defAt (binds := ps.zip us) hr.depth (KX _ _ lk) rfl lim (PySem.W.codeRec_of KX hcd) rfl hb S.nocell (fun x hx => ?_) (fun h1 hns hk1 => ?_) S.co S.gen S.kind
  · obtain ⟨n, v⟩ := x
    exact S.par n (List.of_mem_zip hx).1
  have I0 := inv_f (tk := s.toks + (ps.zip us).length) (qual := qual) (f := f) (cd := .ref cda) S hr.hd e0 hl r hcc rfl hns hk1
  obtain ⟨hp0', g, d, tk0, os⟩ := s
  have hself : us[0]? = some (Value.ref a) := by
    cases r with
    | cons ra rr => cases ra; rfl
  have ndP : ps.Nodup := by rw [← S.pre]; exact S.nd.sublist (List.take_sublist _ _)
  have selfv : (ps.zip us).reverse.lookup ar.arg = some (Value.ref a) := rev_zip ndP hus hp0 hself
  have KX1 : K.In h1 := I0.kIn
  obtain ⟨t1, hoe⟩ := exo_at I0.hok ha
  have hD : h1.get? C = some (excClassObj nm q C N0 bs bm true sn sub ab col dd k0 k1 k2 k3 k5 "ValueError.__new__") := KX1 _ _ hC
  refine PySem.ks_wpAt_execs_cons (PySem.ks_wpAt_Expr_any ?_ I0.quiet rfl)
  refine PySem.ks_wpAt_MethodCall ?_ (he _)
  refine PySem.ks_wpAt_super_base hks hkc (by decide) rfl (KX1 _ _ lk) rfl hp rfl (KX1 _ _ hcode) rfl hvs hfile T.top ?_
  refine PySem.W.ks_loadName_global S.kind hks ?_
  obtain ⟨mb, hb1, hb2⟩ := I0.mod.blt
  have cellH : h1.IsCell cc (some (.ref C)) := ⟨_, KX1 _ _ hcc, rfl⟩
  refine Calls.loadGlobal_builtin (I0.mod.glob.keeps I0.bk) T.nos (hb1.keeps I0.bk) ((hb2 "super" (by decide)).trans (by decide +kernel : bootBuiltins "super" = some (.type "super"))) ⟨rfl, ?_⟩
  refine wpAny_loadName_free S.kind hkc (by show ([(("__class__" : Str), cc)] : List (Str × Addr)).lookup ("__class__" : Str) = some cc; simp [List.lookup]) cellH ?_
  refine wpAny_loadName_local S.kind (S.par _ (List.mem_of_getElem? hp0)) hns selfv ?_
  refine ks_wpAny_isType_cls hD rfl ⟨rfl, ?_⟩
  refine ks_wpAny_call_super hD rfl hoe rfl (fun c e => by cases e) (PySem.W.looks_mroIn KX1 T.sub) (fun h2 e2 k2 => ?_)
  have KX2 : K.In h2 := KX1.keeps k2
  have hoe2 := k2 _ _ hoe
  have hD2 := k2 _ _ hD
  have hclI : PySem.W.clsIn K C = some { name := nm, bases := bs, mro := .ref C :: bm, ns := N0, qualname := q, hasDict := true, slotNames := sn, subclasses := sub, abstract := ab, collection := col, hasDel := false } := by unfold PySem.W.clsIn; rw [hC] <;> rfl
  have hsup := T.sup
  unfold PySem.W.ks_superIn at hsup
  rw [hclI] at hsup
  have IA : PySem.W.InstAt h2 a ({ cls := .ref C, dict := none, data := .fields #[.ref t1, .none, .none, .none, .bool false, .none] } : Obj) C none := ⟨hoe2, rfl, rfl, trivial⟩
  have aC : a ≠ C := PySem.W.ks_ne KX2 IA hclI
  refine PySem.W.kxs_getMethod PySem.W.kxs_ValueError e2 (PySem.W.looks_opaque KX2 T.tp) (fun A Q E s k q => wpAny_bind ((PySem.W.looks_clsIn KX2 hclI) A _ E s k (wpAny_pure q))) rfl KX2 hsup (IA.type.andThen (PySem.W.looks_subIn KX2 T.subV)) aC (by decide) ?_
  refine PySem.W.kxs_callWith (i := "ValueError.__init__") (x := a) (first := []) rfl ?_
  refine Calls.evalArgs_plain (x := eval (.Constant (.str msg) j q3) _) (rest := []) ?_
  refine Calls.spliced_cons (Calls.Constant_str ?_)
  refine Calls.spliced_nil ⟨Heap.get?_push_at rfl rfl, ?_⟩
  have up3 : ∀ b o, h2.get? b = some o → (h2.push (PySem.W.kxs_mw "ValueError.__init__" a)).get? b = some o := fun b o e => Heap.get?_push_of_some _ e
  refine call_mw (up3 _ _ hD2) (up3 _ _ hoe2) (Heap.get?_push_at rfl rfl) (by show 1 ≤ sizeLine; decide) fun h4 t4 k4 e4 => ?_
  have kk : ∀ b o, b ≠ a → h1.get? b = some o → h4.get? b = some o := fun b o hb e => k4 b o hb (up3 b o (k2 b o e))
  have J := I0.write (t' := tk0 + (ps.zip us).length + 1 + 1) (x := a) (e := a) (o := exo a C none) (by rw [ha]; exact True.intro) (.inl rfl) kk ⟨_, e4⟩ (exo_ok e4)
  have eu : upd H a (exo a C none) = H := by
    funext b
    by_cases hb : b = a
    · rw [hb, upd_same, ha]
    · rw [upd_ne hb]
  rw [eu] at J
  obtain ⟨t, ht, hq⟩ := hbody A outer ⟨hp0', g, d, tk0, os⟩ H _ Q E (hr.deeper _) hsp
  show PySem.wpAt _ _ _ (execs rest _) _ _ _
  refine wpAt_of_wpAny (wpAny_mono (ht.run [] _ (L2.start N _) H _ J hq) (fun fl s' hs => ?_) fun e s' hs => False.elim hs)
  have fin : ∀ {σ' : L2.St} {H' : Hp} {v : V} {u : Value}, Inv (cxF P w K mg base N qual scope f cc (.ref cda) A outer ⟨hp0', g, d, tk0, os⟩ H) [] σ' H' s' → RelV v u → Q v H' → CE outer P w H ⟨hp0', g, d, tk0, os⟩ Q u s' :=
    fun {σ' H' v u} J rv q => ⟨v, H', J.os, J.bare, J.base, J.hok, rv, q⟩
  cases fl with
  | ret u =>
    obtain ⟨v, σ', H', J, rv, q⟩ := hs
    exact fin J rv q
  | next =>
    obtain ⟨σ', H', J, q⟩ := hs
    exact fin (v := V.non) (u := Value.none) J rfl q
  | brk =>
    obtain ⟨_, _, _, q⟩ := hs
    exact False.elim q
  | cont =>
    obtain ⟨_, _, _, q⟩ := hs
    exact False.elim q
end TZ

namespace TZ
open PySem L2
/-! ### enumerate over a text -/
def Ites (x : Str) : It :=
  ⟨fun i _ => i < x.cps.size, fun i H v H' => ∃ (T : Addr) (c : Nat), v = .ref T ∧ H T = none ∧ H' = upd H T (.tup [.int (i : Nat), .str ⟨#[c]⟩]) ∧ x.cps[i]? = some c, fun i _ => x.cps.size ≤ i⟩
theorem strIterType_or (x : Str) : strIterType x = "str_ascii_iterator" ∨ strIterType x = "str_iterator" := by
  unfold strIterType
  split
  · exact .inl rfl
  · exact .inr rfl
theorem draws_str {prog : Program} {w : World} {A : Around} (hh : A.handled = none) (it : Addr) (x : Str) (t : Tok) :
    Draws prog w A it [it] x.cps.size (fun i v => ∃ c u, x.cps[i]? = some c ∧ v = .str ⟨#[c]⟩ u) (fun i h => h.IsStrIter it (strIterType x) x t i) := by
  rcases strIterType_or x with e | e
  · rw [e]; exact Draws.strAscii hh it x t
  · rw [e]; exact Draws.strWide hh it x t
theorem turn_enumS {P : Program} {w : World} {K : PySem.W.Frag} {elts : List Expr} {kk : Nat} {tpos : Pos} (e it : Addr) (x : Str) (t : Tok) :
    Turn P w K (.Tuple elts kk tpos) (Ites x) [e, it] e (fun i h => (∃ old, IsEnum h e it ((i : Nat) : Int) old) ∧ h.IsStrIter it (strIterType x) x t i ∧ e ≠ it ∧ i ≤ x.cps.size) where
  mem := by simp
  obj := fun i h st b hb => by
    obtain ⟨⟨old, he⟩, ⟨o, ho, hc, hd⟩, _, _⟩ := st
    have e' : b = e ∨ b = it := by simpa using hb
    rcases e' with z | z
    · rw [z]; exact ⟨_, he, fun v q => nomatch q⟩
    · rw [z]; exact ⟨o, ho, fun v q => by rw [hd] at q; cases q⟩
  keep := fun i h h' st k => by
    obtain ⟨⟨old, he⟩, ⟨o, ho, r⟩, hne, hle⟩ := st
    exact ⟨⟨old, k e (by simp) _ he⟩, ⟨o, k it (by simp) o ho, r⟩, hne, hle⟩
  item := by
    intro X hP hw hK hc i pins s σ H E I hf st hg
    subst hP hw hK
    obtain ⟨⟨old, he⟩, hit, hne, hle⟩ := st
    have hlt : i < x.cps.size := hg
    have hel : e < s.heap.objs.size := Heap.lt_size he
    have hil : it < s.heap.objs.size := by obtain ⟨_, q, _⟩ := hit; exact Heap.lt_size q
    have hh : X.A.in1.handled = none := I.ok.hd hc
    refine wpAny_pyNext_enum_itemD (draws_str hh it x t) he hit hlt hne (by simpa using hne) fun u h' tk hP ho hit' hT hsz hk => ?_
    obtain ⟨c, tt, hcx, rfl⟩ := hP
    refine ⟨_, rfl, wpAny_letOwnedTupleGo_enum (s := { s with heap := h', toks := tk + 1 }) ho fun h'' he' sb => ?_⟩
    have hT2 : h''.get? s.heap.objs.size = some { cls := .type "tuple", data := .seq #[.int i tk, .str ⟨#[c]⟩ tt] } := (sb.2 _ (Nat.ne_of_gt hel)).trans hT
    have new : ObjOk X.prog X.w (upd H s.heap.objs.size (.tup [.int (i : Nat), .str ⟨#[c]⟩])) h'' s.heap.objs.size (.tup [.int (i : Nat), .str ⟨#[c]⟩]) :=
      ⟨by show 2 ≤ sizeLine; decide, [.int i tk, .str ⟨#[c]⟩ tt], .cons ⟨_, rfl⟩ (.cons ⟨_, rfl⟩ .nil), ⟨_, hT2, rfl, _, rfl⟩⟩
    have I1 : Inv X pins σ (upd H s.heap.objs.size (.tup [.int (i : Nat), .str ⟨#[c]⟩])) { s with heap := h'', toks := tk + 1 } :=
      I.turnedNew (ch := [e, it]) (fun b ob hb q => (sb.2 b (fun z => hb (by simp [z]))).trans (hk b ob (fun z => hb (by simp [z])) (fun z => hb (by simp [z])) q)) hf (Nat.le_refl _) new
    refine ⟨.ref s.heap.objs.size, _, I1, rfl, ⟨_, c, rfl, I.hok.fresh (Nat.le_refl _), rfl, hcx⟩, ⟨⟨.str ⟨#[c]⟩ tt, ?_⟩, ?_, hne, hlt⟩, fun b hb => ?_⟩
    · have e1 : ((i + 1 : Nat) : Int) = (i : Int) + 1 := by omega
      rw [e1]; exact he'
    · obtain ⟨oi, hoi, r⟩ := hit'
      exact ⟨oi, (sb.2 it (Ne.symm hne)).trans hoi, r⟩
    · have hb' : b < s.heap.objs.size := by
        have e' : b = e ∨ b = it := by simpa using hb
        rcases e' with z | z
        · rw [z]; exact hel
        · rw [z]; exact hil
      rw [upd_ne (Nat.ne_of_lt hb')]
      exact (hf b hb).1
  done := by
    intro X hP hw hK hc i pins s σ H E I hf st hg
    subst hP hw hK
    obtain ⟨⟨old, he⟩, hit, hne, hle⟩ := st
    obtain ⟨f0, f1, f2, f3, f4, f5⟩ := hf it (by simp)
    have hge : x.cps.size ≤ i := hg
    have hx : x.cps[i]? = none := Array.getElem?_eq_none hge
    have hh : X.A.in1.handled = none := I.ok.hd hc
    have ei : i = x.cps.size := Nat.le_antisymm hle hge
    subst ei
    exact wpAny_pyNext_enum_endD (draws_str hh it x t) he hit fun h' eb => ⟨rfl, I.turned (t' := s.toks) (fun b o hb q => eb b o hb q) f0 f1 f3 f4 f5⟩
  self := fun A i s Q E st h => by
    obtain ⟨⟨_, he⟩, _⟩ := st
    exact wpAny_pyIter_enum he h
def iEnumS (ta : TA) : TI := fun σ H R => ta σ H fun vs H1 => ∃ x, vs = [.str x] ∧ R (Ites x) H1
theorem pi_enumS {X : Cx} {e : Expr} {ta : TA} {p pos tpos : Pos} {elts : List Expr} {kk : Nat} (hg : Gl X "enumerate") (hm : X.mg "enumerate" = none) (ha : PA X [e] ta) (hs : starEach [e] X.env = [(false, eval e X.env)] := by rfl) :
    PI X (.Tuple elts kk tpos) (.Call (.Name "enumerate" p) [e] [] pos) (iEnumS ta) := by
  refine ⟨fun pins s σ H R I h => ?_⟩
  refine PyProof.Rows.Call_ (ld_blt I hg hm PyProof.Rows.boot_enumerate (PyProof.Rows.callWith_type1 (thn (ha.run pos pins s σ H _ I h) fun us s1 ⟨vs, H1, I1, r1, q1⟩ => ?_) hs rfl))
  obtain ⟨x, ex, q⟩ := q1
  subst ex
  cases r1 with
  | cons r rr =>
    cases rr
    obtain ⟨t, rfl⟩ := r
    refine call_enumerate_str fun h' he hit hsz hk => wpAny_pyIter_enum he ?_
    have I2 : Inv X pins σ H1 { s1 with heap := h' } := I1.kept (t' := s1.toks) hk
    refine ⟨s1.heap.objs.size + 1, [s1.heap.objs.size + 1, s1.heap.objs.size], _, _, H1, rfl, I2, turn_enumS (s1.heap.objs.size + 1) s1.heap.objs.size x t, ⟨⟨.none, he⟩, hit, Nat.succ_ne_self _, Nat.zero_le _⟩, fun b hb => ?_, q⟩
    have e' : b = s1.heap.objs.size + 1 ∨ b = s1.heap.objs.size := by simpa using hb
    have hle : s1.heap.objs.size ≤ b := by
      rcases e' with z | z
      · rw [z]; exact Nat.le_add_right _ _
      · rw [z]; exact Nat.le_refl _
    exact I1.fpOk hle (I1.hok.fresh hle)
theorem for_enumS {x : Str} {g : TG} {tb : TS} {D : Ends} {σ : L2.St} {H : Hp} (Pv : Nat → L2.St → Hp → Prop) (h0 : Pv 0 σ H)
    (hs : ∀ i c T σ H, x.cps[i]? = some c → Pv i σ H → H T = none → g (.ref T) σ (upd H T (.tup [.int (i : Nat), .str ⟨#[c]⟩])) fun σ2 H2 => tb { D with nx := Pv (i + 1), ct := Pv (i + 1), bk := D.nx } σ2 H2)
    (hd : ∀ σ H, Pv x.cps.size σ H → D.nx σ H) :
    ∃ W : Nat → Nat → L2.St → Hp → Prop, (∃ m, W 0 m σ H) ∧ ∀ i m σ H, W i m σ H →
      ((Ites x).stop i H ∧ D.nx σ H) ∨ ((Ites x).go i H ∧ ∃ N : L2.St → Hp → Prop, (∀ σ' H', N σ' H' → ∃ m', m' < m ∧ W (i + 1) m' σ' H') ∧ ∀ x' H', (Ites x).yld i H x' H' → g x' σ H' fun σ2 H2 => tb { D with nx := N, ct := N, bk := D.nx } σ2 H2) := by
  refine ⟨fun i m σ H => m = x.cps.size - i ∧ i ≤ x.cps.size ∧ Pv i σ H, ⟨x.cps.size, by simp, Nat.zero_le _, h0⟩, ?_⟩
  rintro i m σ H ⟨rfl, hi, p⟩
  by_cases hlt : i < x.cps.size
  · refine .inr ⟨hlt, Pv (i + 1), fun σ' H' p' => ⟨x.cps.size - (i + 1), by omega, rfl, hlt, p'⟩, fun x' H' y => ?_⟩
    obtain ⟨T, c, rfl, n, rfl, hc⟩ := y
    exact hs i c T σ H hc p n
  · have e : i = x.cps.size := by omega
    subst e
    exact .inl ⟨Nat.le_refl _, hd σ H p⟩
end TZ

namespace TZ
open PySem L2
/-! ### what a stretch of code keeps of the heap: all but what stands at ms; tuples always -/
structure Frm (ms : List Addr) (H H' : Hp) : Prop where
  keep : ∀ b o, H b = some o → b ∉ ms → H' b = some o
  tup : ∀ b xs, H b = some (.tup xs) → H' b = some (.tup xs)
  th : ∀ b o, H b = some o → ∃ o', H' b = some o'
theorem Frm.refl (ms : List Addr) (H : Hp) : Frm ms H H := ⟨fun _ _ e _ => e, fun _ _ e => e, fun _ o e => ⟨o, e⟩⟩
theorem Frm.trans {ms : List Addr} {H H1 H2 : Hp} (a : Frm ms H H1) (b : Frm ms H1 H2) : Frm ms H H2 :=
  ⟨fun c o e n => b.keep _ _ (a.keep _ _ e n) n, fun c xs e => b.tup _ _ (a.tup _ _ e), fun c o e => by obtain ⟨o', e'⟩ := a.th _ _ e; exact b.th _ _ e'⟩
theorem Frm.free {ms : List Addr} {H H' : Hp} (f : Frm ms H H') {p : Addr} (n : H' p = none) : H p = none := by
  cases e : H p with
  | none => rfl
  | some o =>
    obtain ⟨o', e'⟩ := f.th _ _ e
    rw [n] at e'
    cases e'
theorem Frm.sub {ms ns : List Addr} {H H' : Hp} (f : Frm ms H H') (s : ∀ x ∈ ms, x ∈ ns) : Frm ns H H' := ⟨fun b o e n => f.keep b o e fun z => n (s b z), f.tup, f.th⟩
theorem Frm.new {ms : List Addr} {H : Hp} {p : Addr} {o : HO} (n : H p = none) : Frm ms H (upd H p o) :=
  ⟨fun b u e _ => by rw [upd_ne (ne_of_none e n)]; exact e, fun b xs e => by rw [upd_ne (ne_of_none e n)]; exact e, fun b u e => ⟨u, by rw [upd_ne (ne_of_none e n)]; exact e⟩⟩
theorem Frm.put {ms : List Addr} {H : Hp} {p : Addr} {o o' : HO} (e : H p = some o) (nt : ∀ xs, o ≠ .tup xs) (m : p ∈ ms) : Frm ms H (upd H p o') :=
  ⟨fun b u eb n => by rw [upd_ne (fun z => n (by rw [z]; exact m))]; exact eb,
   fun b xs eb => by rw [upd_ne (fun z => by rw [z, e] at eb; exact nt xs (Option.some.inj eb))]; exact eb,
   fun b u eb => by
    by_cases z : b = p
    · exact ⟨o', by rw [z, upd_same]⟩
    · exact ⟨u, by rw [upd_ne z]; exact eb⟩⟩
/-- what was new since the anchor may change, too -/
theorem Frm.mut {ms : List Addr} {H0 H : Hp} {p : Addr} {o o' : HO} (f : Frm ms H0 H) (n : H0 p = none) (e : H p = some o) (nt : ∀ xs, o ≠ .tup xs) : Frm ms H0 (upd H p o') :=
  ⟨fun b u eb m => by rw [upd_ne (ne_of_none eb n)]; exact f.keep b u eb m, fun b xs eb => by rw [upd_ne (ne_of_none eb n)]; exact f.tup b xs eb,
   fun b u eb => by rw [upd_ne (ne_of_none eb n)]; exact f.th b u eb⟩
/-- the walk's word: since the anchor H0 only what stands at ms has changed; the heap holds L -/
structure Wd (H0 : Hp) (ms : List Addr) (H : Hp) (L : List (Addr × HO)) : Prop where
  nd : (L.map (·.1)).Nodup
  at' : ∀ p ∈ L, H p.1 = some p.2
  fr : Frm ms H0 H
section
variable {H0 H H1 : Hp} {ms : List Addr} {L : List (Addr × HO)} {a p : Addr} {o o' : HO} {xs : List V}
theorem Wd.here (ms : List Addr) (nd : (L.map (·.1)).Nodup) (h : ∀ p ∈ L, H p.1 = some p.2) : Wd H ms H L := ⟨nd, h, Frm.refl _ _⟩
theorem Wd.anew (w : Wd H0 ms H L) (ns : List Addr) : Wd H ns H L := ⟨w.nd, w.at', Frm.refl _ _⟩
theorem Wd.at (w : Wd H0 ms H L) (m : (a, o) ∈ L) : H a = some o := w.at' _ m
theorem Wd.tup (w : Wd H0 ms H L) (e : H0 a = some (.tup xs)) : H a = some (.tup xs) := w.fr.tup _ _ e
theorem Wd.keep (w : Wd H0 ms H L) (e : H0 a = some o) (n : a ∉ ms) : H a = some o := w.fr.keep _ _ e n
theorem Wd.notin (w : Wd H0 ms H L) (n : H p = none) : p ∉ L.map (·.1) := fun z => by
  obtain ⟨q, hq, e⟩ := List.mem_map.mp z
  have := w.at' q hq
  rw [e, n] at this
  cases this
theorem Wd.free (w : Wd H0 ms H L) (n : H p = none) : H0 p = none := w.fr.free n
theorem Wd.new (w : Wd H0 ms H L) (n : H p = none) : Wd H0 ms (upd H p o) ((p, o) :: L) := by
  refine ⟨List.nodup_cons.mpr ⟨w.notin n, w.nd⟩, fun q hq => ?_, w.fr.trans (Frm.new n)⟩
  rcases List.mem_cons.mp hq with rfl | hq
  · exact upd_same
  · have := w.at' q hq
    rw [upd_ne (ne_of_none this n)]
    exact this
theorem Wd.drop {q : Addr × HO} (w : Wd H0 ms H (q :: L)) : Wd H0 ms H L := ⟨(List.nodup_cons.mp w.nd).2, fun p hp => w.at' p (List.mem_cons_of_mem _ hp), w.fr⟩
theorem map_set_fst {i : Nat} (hi : L[i]? = some (a, o)) : (L.set i (a, o')).map (·.1) = L.map (·.1) := by
  rw [List.map_set]
  obtain ⟨h, e⟩ := List.getElem?_eq_some_iff.mp hi
  have : (L.map (·.1))[i]'(by simpa using h) = a := by rw [List.getElem_map, e]
  conv => lhs; rw [← this]
  exact List.set_getElem_self _
theorem Wd.call1 {i : Nat} (w : Wd H0 ms H L) (hi : L[i]? = some (a, o)) (own : a ∈ ms ∨ H0 a = none) (f : Frm [a] H H1) (h : H1 a = some o') (nt : ∀ xs, o ≠ .tup xs) : Wd H0 ms H1 (L.set i (a, o')) := by
  refine ⟨by rw [map_set_fst hi]; exact w.nd, fun q hq => ?_, ?_⟩
  · obtain ⟨j, hj⟩ := List.mem_iff_getElem?.mp hq
    by_cases e : i = j
    · subst e
      have hl : i < L.length := (List.getElem?_eq_some_iff.mp hi).1
      rw [List.getElem?_set_self hl] at hj
      cases hj
      exact h
    · rw [List.getElem?_set_ne e] at hj
      have hq' := w.at' q (List.mem_of_getElem? hj)
      refine f.keep _ _ hq' fun z => ?_
      have z' : q.1 = a := by simpa using z
      have h1 : (L.map (·.1))[i]? = some a := by rw [List.getElem?_map, hi]; rfl
      have h2 : (L.map (·.1))[j]? = some a := by rw [List.getElem?_map, hj, ← z']; rfl
      exact e (L2.nd_ix w.nd h1 h2)
  · refine ⟨fun b u eb n => ?_, fun b xs eb => f.tup _ _ (w.fr.tup _ _ eb), fun b u eb => ?_⟩
    · refine f.keep _ _ (w.fr.keep _ _ eb n) fun z => ?_
      have z' : b = a := by simpa using z
      rcases own with m | m
      · exact n (by rw [z']; exact m)
      · rw [z', m] at eb; cases eb
    · obtain ⟨o2, e2⟩ := w.fr.th _ _ eb
      exact f.th _ _ e2
theorem Wd.put {i : Nat} (w : Wd H0 ms H L) (hi : L[i]? = some (a, o)) (own : a ∈ ms ∨ H0 a = none) (nt : ∀ xs, o ≠ .tup xs) : Wd H0 ms (upd H a o') (L.set i (a, o')) :=
  w.call1 hi own (Frm.put (w.at' _ (List.mem_of_getElem? hi)) nt (by simp)) upd_same nt
theorem Wd.call0 (w : Wd H0 ms H L) (f : Frm [] H H1) : Wd H0 ms H1 L :=
  ⟨w.nd, fun q hq => f.keep _ _ (w.at' q hq) (by simp), w.fr.trans (f.sub (by simp))⟩
/-- a call that hands back a new object -/
theorem Wd.add {L0 : List (Addr × HO)} {n0 : List Addr} (w : Wd H0 ms H1 L) (w0 : Wd H0 n0 H L0) (n : H p = none) (h : H1 p = some o) (e : L.map (·.1) = L0.map (·.1) := by rfl) : Wd H0 ms H1 ((p, o) :: L) :=
  ⟨List.nodup_cons.mpr ⟨by rw [e]; exact w0.notin n, w.nd⟩, fun q hq => by
    rcases List.mem_cons.mp hq with rfl | hq
    · exact h
    · exact w.at' q hq, w.fr⟩
theorem Wd.trans {L' : List (Addr × HO)} (w : Wd H0 ms H L) (w' : Wd H ms H1 L') : Wd H0 ms H1 L' := ⟨w'.nd, w'.at', w.fr.trans w'.fr⟩
theorem Wd.transN {ns : List Addr} {L' : List (Addr × HO)} (w : Wd H0 ms H L) (w' : Wd H ns H1 L') (s : ∀ x ∈ ns, x ∈ ms ∨ H0 x = none) : Wd H0 ms H1 L' := by
  refine ⟨w'.nd, w'.at', ⟨fun b o e n => ?_, fun b xs e => w'.fr.tup _ _ (w.fr.tup _ _ e), fun b o e => ?_⟩⟩
  · refine w'.fr.keep b o (w.fr.keep b o e n) fun z => ?_
    rcases s b z with m | m
    · exact n m
    · rw [m] at e
      cases e
  · obtain ⟨o', e'⟩ := w.fr.th _ _ e
    exact w'.fr.th _ _ e'
end
end TZ

namespace TZ
open PySem L2
section
variable {K : PySem.W.Frag} {σ : L2.St} {H H0 : Hp} {ms : List Addr} {L : List (Addr × HO)} {Q : VK} {QB : Bool → Hp → Prop} {QL : List V → Hp → Prop} {QO : Option Int → Hp → Prop} {ta tb te : TE} {tt tu : TT} {tl : TA} {to th : TO}
  {r : R2} {x y v : V} {i j : Int} {b : Bool} {nx bk ct : L2.St → Hp → Prop} {rt : VK} {t u ts : TS} {P A B : Prop} {a : Addr} {xs : List V} {s z : Str}
theorem r_var {n : Nat} (h : σ[n]? = some (some v)) (k : Q v H) : tVar n σ H Q := ⟨v, h, k⟩
theorem r_c (k : Q v H) : tC v σ H Q := k
theorem r_op (k : ta σ H fun x H1 => tb σ H1 fun y H2 => r x y H2 Q) : tOp r ta tb σ H Q := k
theorem r_un {f : V → Hp → VK → Prop} (k : ta σ H fun x H1 => f x H1 Q) : tUn f ta σ H Q := k
theorem r_I0 {g : Int → Int → V} (k : Q (g i j) H) : rI0 g (.int i) (.int j) H Q := ⟨i, j, rfl, rfl, k⟩
theorem r_I {C : Int → Int → Prop} {g : Int → Int → V} (c : C i j) (k : Q (g i j) H) : rI C g (.int i) (.int j) H Q := ⟨i, j, rfl, rfl, c, k⟩
theorem r_U {g : Int → V} (k : Q (g i) H) : rU g (.int i) H Q := ⟨i, rfl, k⟩
theorem r_eq (h : scal x y = true) (k : Q (.bl (decide (x = y))) H) : rEq x y H Q := ⟨h, k⟩
theorem r_ne (h : scal x y = true) (k : Q (.bl (!decide (x = y))) H) : rNe x y H Q := ⟨h, k⟩
theorem r_eqI (k : Q (.bl (decide (i = j))) H) : rEq (.int i) (.int j) H Q := ⟨rfl, by simpa using k⟩
theorem r_neI (k : Q (.bl (!decide (i = j))) H) : rNe (.int i) (.int j) H Q := ⟨rfl, by simpa using k⟩
theorem r_eqS (k : Q (.bl (decide (s = z))) H) : rEq (.str s) (.str z) H Q := ⟨rfl, by simpa using k⟩
theorem r_neS (k : Q (.bl (!decide (s = z))) H) : rNe (.str s) (.str z) H Q := ⟨rfl, by simpa using k⟩
theorem r_test (k : te σ H fun x H' => ∃ c, x = .bl c ∧ QB c H') : tTest te σ H QB := k
theorem r_B (k : te σ H fun x H' => ∃ c, x = .bl c ∧ QB c H') : tB te σ H QB := k
theorem r_bl {R : Bool → Prop} (k : R b) : ∃ c, V.bl b = .bl c ∧ R c := ⟨b, rfl, k⟩
theorem r_and (k : tt σ H fun c H1 => if c = true then tu σ H1 QB else QB false H1) : tAnd tt tu σ H QB := k
theorem r_or (k : tt σ H fun c H1 => if c = true then QB true H1 else tu σ H1 QB) : tOr tt tu σ H QB := k
theorem r_not (k : tt σ H fun c H1 => QB (!c) H1) : tNot tt σ H QB := k
theorem r_andV (k : ta σ H fun x H1 => ∃ c, x = .bl c ∧ if c = true then tb σ H1 Q else Q (.bl false) H1) : tAndV ta tb σ H Q := k
theorem r_orV (k : ta σ H fun x H1 => ∃ c, x = .bl c ∧ if c = true then Q (.bl true) H1 else tb σ H1 Q) : tOrV ta tb σ H Q := k
theorem r_notV (k : ta σ H fun x H1 => ∃ c, x = .bl c ∧ Q (.bl (!c)) H1) : tNotV ta σ H Q := k
theorem r_ifE (k : tt σ H fun c H1 => if c = true then ta σ H1 Q else tb σ H1 Q) : tIf tt ta tb σ H Q := k
theorem r_ifS {D : Ends} (k : tt σ H fun b H1 => if b = true then t D σ H1 else u D σ H1) : tIfS tt t u D σ H := k
/-- an if whose test is a fact, or open -/
theorem ifT (h : A) : if true = true then A else B := by rw [if_pos rfl]; exact h
theorem ifF (h : B) : if false = true then A else B := by rw [if_neg Bool.false_ne_true]; exact h
theorem ifNT (h : B) : if (!true) = true then A else B := by rw [show (!true) = false from rfl, if_neg Bool.false_ne_true]; exact h
theorem ifNF (h : A) : if (!false) = true then A else B := by rw [show (!false) = true from rfl, if_pos rfl]; exact h
theorem if2 {p : Prop} [Decidable p] (h1 : p → A) (h2 : ¬p → B) : if decide p = true then A else B := by
  by_cases c : p
  · rw [if_pos (decide_eq_true c)]; exact h1 c
  · rw [decide_eq_false c, if_neg Bool.false_ne_true]; exact h2 c
theorem ifn2 {p : Prop} [Decidable p] (h1 : ¬p → A) (h2 : p → B) : if (!decide p) = true then A else B := by
  by_cases c : p
  · rw [decide_eq_true c]; exact ifF (h2 c)
  · rw [decide_eq_false c]; exact ifT (h1 c)
theorem ifb (h1 : b = true → A) (h2 : b = false → B) : if b = true then A else B := by
  cases b with
  | true => exact ifT (h1 rfl)
  | false => exact ifF (h2 rfl)
theorem ifnb (h1 : b = false → A) (h2 : b = true → B) : if (!b) = true then A else B := by
  cases b with
  | true => exact ifF (h2 rfl)
  | false => exact ifT (h1 rfl)
/-! statements -/
theorem r_seq (k : t ⟨u ⟨nx, rt, bk, ct⟩, rt, bk, ct⟩ σ H) : tSeq t u ⟨nx, rt, bk, ct⟩ σ H := k
def SetS (σ : L2.St) (n : Nat) (x : V) (nx : L2.St → Hp → Prop) (H : Hp) : Prop := nx (σ.set n (some x)) H
theorem r_asg {n : Nat} (k : te σ H fun x H1 => SetS σ n x nx H1) : tAsg te (gName n) ⟨nx, rt, bk, ct⟩ σ H := k
theorem r_set {n : Nat} {σ' : L2.St} (h : σ.set n (some x) = σ') (k : nx σ' H) : SetS σ n x nx H := by
  unfold SetS
  rw [h]
  exact k
theorem r_asgT {n : Nat} {gs : TGs} (k : te σ H fun x H1 => gTup K n gs x σ H1 nx) : tAsg te (gTup K n gs) ⟨nx, rt, bk, ct⟩ σ H := k
theorem r_asgS {f : TSet} (k : te σ H fun x H1 => ta σ H1 fun o H2 => tb σ H2 fun i H3 => f o i x H3 fun H4 => nx σ H4) : tAsg te (gSub ta tb f) ⟨nx, rt, bk, ct⟩ σ H := k
theorem r_gT {n : Nat} {gs : TGs} {QS : L2.St → Hp → Prop} (h : H a = some (.tup xs)) (e : xs.length = n) (k : gs xs σ H QS) : gTup K n gs (.ref a) σ H QS := ⟨a, xs, rfl, Or.inl (Or.inl h), e, k⟩
theorem r_gN {n : Nat} {QS : L2.St → Hp → Prop} (k : SetS σ n x QS H) : gName n x σ H QS := k
theorem r_gc {g : TG} {gs : TGs} {QS : L2.St → Hp → Prop} (k : g x σ H fun σ' H' => gs xs σ' H' QS) : gCons g gs (x :: xs) σ H QS := ⟨x, xs, rfl, k⟩
theorem r_gn {QS : L2.St → Hp → Prop} (k : QS σ H) : gNil [] σ H QS := ⟨rfl, k⟩
theorem r_ret (k : te σ H rt) : tRet te ⟨nx, rt, bk, ct⟩ σ H := k
theorem r_retN (k : rt .non H) : tRetN ⟨nx, rt, bk, ct⟩ σ H := k
theorem r_drop (k : te σ H fun _ H1 => nx σ H1) : tDrop te ⟨nx, rt, bk, ct⟩ σ H := k
theorem r_next (k : nx σ H) : tNext ⟨nx, rt, bk, ct⟩ σ H := k
theorem r_cont (k : ct σ H) : tCont ⟨nx, rt, bk, ct⟩ σ H := k
theorem r_brk (k : bk σ H) : tBreak ⟨nx, rt, bk, ct⟩ σ H := k
/-! lists, tuples, texts -/
theorem r_nil (k : QL [] H) : tNil σ H QL := k
theorem r_cons (k : te σ H fun x H1 => tl σ H1 fun xs H2 => QL (x :: xs) H2) : tCons te tl σ H QL := k
theorem r_cb {f : List V → Hp → VK → Prop} (k : tl σ H fun vs H1 => f vs H1 Q) : tCB f tl σ H Q := k
theorem r_ixL {p : Addr} (h : SqL K H p xs) (e : atI xs i = some v) (k : Q v H) : rIxL K (.ref p) (.int i) H Q := ⟨p, xs, i, v, rfl, rfl, h, e, k⟩
theorem r_ixT {p : Addr} (h : H p = some (.tup xs)) (e : atI xs i = some v) (k : Q v H) : rIxT K (.ref p) (.int i) H Q := ⟨p, xs, i, v, rfl, rfl, Or.inl (Or.inl h), e, k⟩
theorem r_ixS {c : Nat} (hl : z.length ≤ sizeLine) (e : atI z.cps.toList i = some c) (k : Q (.str ⟨#[c]⟩) H) : rIxS (.str z) (.int i) H Q := ⟨z, i, c, rfl, rfl, hl, e, k⟩
theorem r_setL {p : Addr} {n : Nat} {QH : Hp → Prop} (h : H p = some (.lst xs)) (e : ixN xs.length i = some n) (k : QH (upd H p (.lst (xs.set n v)))) : rSetL (.ref p) (.int i) v H QH := ⟨p, xs, i, n, rfl, rfl, h, e, k⟩
def MkT (xs : List V) (H : Hp) (Q : VK) : Prop := xs.length ≤ sizeLine ∧ ∀ p, H p = none → Q (.ref p) (upd H p (.tup xs))
def MkL (xs : List V) (H : Hp) (Q : VK) : Prop := xs.length ≤ sizeLine ∧ ∀ p, H p = none → Q (.ref p) (upd H p (.lst xs))
theorem r_tup (k : tl σ H fun xs H1 => MkT xs H1 Q) : tTup tl σ H Q := k
theorem r_lst (k : tl σ H fun xs H1 => MkL xs H1 Q) : tLst tl σ H Q := k
theorem r_mkT (w : Wd H0 ms H L) (h : xs.length ≤ sizeLine) (k : ∀ p H1, H p = none → H0 p = none → Wd H0 ms H1 ((p, .tup xs) :: L) → Q (.ref p) H1) : MkT xs H Q :=
  ⟨h, fun p n => k p _ n (w.free n) (w.new n)⟩
theorem r_mkL (w : Wd H0 ms H L) (h : xs.length ≤ sizeLine) (k : ∀ p H1, H p = none → H0 p = none → Wd H0 ms H1 ((p, .lst xs) :: L) → Q (.ref p) H1) : MkL xs H Q :=
  ⟨h, fun p n => k p _ n (w.free n) (w.new n)⟩
theorem r_nopart (k : QO none H) : tNoPart σ H QO := k
theorem r_part (k : te σ H fun x H1 => ∃ i, x = .int i ∧ QO (some i) H1) : tPart te σ H QO := k
theorem r_partI {R : Int → Prop} (k : R i) : ∃ n, V.int i = .int n ∧ R n := ⟨i, rfl, k⟩
theorem r_sl {f : V → Option Int → Option Int → Hp → VK → Prop} (k : te σ H fun x H1 => to σ H1 fun l H2 => th σ H2 fun u H3 => f x l u H3 Q) : tSl f te to th σ H Q := k
theorem r_slS {lo hi : Option Int} (h : z.length ≤ sizeLine) (k : Q (.str (cutS z lo hi)) H) : rSlS (.str z) lo hi H Q := ⟨z, rfl, h, k⟩
theorem r_call {sp : Sp} {dvs : List V} {E : XK} (k : tl σ H fun vs H1 => sp (vs ++ dvs) H1 Q E) : tCall sp dvs E tl σ H Q := k
theorem sqL (h : H a = some (.lst xs)) : SqL K H a xs := Or.inl (Or.inl h)
end
end TZ

namespace TZ
open PySem L2
/-- a def of the top that may be called by its name -/
structure CalX (P : Program) (w : World) (K : PySem.W.Frag) (mg : Str → Option Value) (base : Heap) (CX : CXT) (k : Nat) (x : Str) (sp : Sp) : Prop where
  ex : ∃ (f : Addr) (fd : FuncData) (ps : List Str), FnOk P w K mg base CX k f fd ps sp ∧ mg x = some (.ref f) ∧ PySem.W.keepIn K (.ref f) = true ∧ Binds K fd ps []
theorem pe_cx {X : Cx} {CX : CXT} {k j : Nat} {x : Str} {sp : Sp} {E : XK} {p pos : Pos} {e : Expr} {es : List Expr} {t : TA} (c : CalX X.prog X.w X.K X.mg X.base CX k x sp) (hr : Room j X.A) (hk : k ≤ j) (hg : Gl X x) (hx : Passes CX X E) (ha : PA X (e :: es) t)
    (hdb : (x == ("__debug__" : Str)) = false := by decide) (he : starEach (e :: es) X.env = (false, eval e X.env) :: starEach es X.env := by rfl) (hpl : (backTo pos (starEach es X.env)).any (·.1) = false := by rfl) :
    PE X (.Call (.Name x p) (e :: es) [] pos) (tCall sp [] E t) := by
  obtain ⟨f, fd, ps, F, hm, kp, b⟩ := c.ex
  exact pe_call F (hr.mono hk) hg hm kp b .nil hx ha hdb he hpl
theorem r_call0 {sp : Sp} {E : XK} {tl : TA} {σ : L2.St} {H : Hp} {Q : VK} (k : tl σ H fun vs H1 => sp vs H1 Q E) : tCall sp [] E tl σ H Q := by
  show tl σ H fun vs H1 => sp (vs ++ []) H1 Q E
  simp only [List.append_nil]
  exact k
theorem cxK {CX : CXT} {P : Program} {w : World} {K : PySem.W.Frag} {mg : Str → Option Value} {base : Heap} {N : List Str} {q : Str} {sc : Scope} {f : Addr} {cd : Value} {A : Around} {outer : List Env} {s : Shared} {H : Hp} {E : XK} : (cxOf CX P w K mg base N q sc f cd A outer s H E).nox.K = K := rfl
theorem cxKX {CX : CXT} {P : Program} {w : World} {K : PySem.W.Frag} {mg : Str → Option Value} {base : Heap} {N : List Str} {q : Str} {sc : Scope} {f : Addr} {cd : Value} {A : Around} {outer : List Env} {s : Shared} {H : Hp} {E : XK} : (cxOf CX P w K mg base N q sc f cd A outer s H E).K = K := rfl
section
variable {K : PySem.W.Frag} {σ : L2.St} {H H0 : Hp} {ms : List Addr} {L L' : List (Addr × HO)} {Q : VK} {R B : Prop} {a p : Addr} {xs ys : List V} {x y v : V} {i j : Int} {s z : Str} {n m : Nat}
theorem r_int1 {R : Int → Prop} (k : R i) : (∃ i', [V.int i] = [V.int i'] ∧ R i') ∨ B := Or.inl ⟨i, rfl, k⟩
theorem r_lenL {R : List V → Prop} (h : SqL K H a ys) (k : R ys) : ∃ p zs, [V.ref a] = [V.ref p] ∧ (SqL K H p zs ∨ SqT K H p zs) ∧ R zs := ⟨a, ys, rfl, Or.inl h, k⟩
theorem r_lenT {R : List V → Prop} (h : H a = some (.tup ys)) (k : R ys) : ∃ p zs, [V.ref a] = [V.ref p] ∧ (SqL K H p zs ∨ SqT K H p zs) ∧ R zs := ⟨a, ys, rfl, Or.inr (Or.inl (Or.inl h)), k⟩
theorem r_lenS {R : Str → Prop} (h : s.length ≤ sizeLine) (k : R s) : ∃ z, [V.str s] = [V.str z] ∧ z.length ≤ sizeLine ∧ R z := ⟨s, rfl, h, k⟩
theorem r_l1 {R : Int → Prop} (k : R i) : ∃ i', [V.int i] = [V.int i'] ∧ R i' := ⟨i, rfl, k⟩
theorem r_l2 {R : Int → Int → Prop} (k : R i j) : ∃ i' j', [V.int i, V.int j] = [V.int i', V.int j'] ∧ R i' j' := ⟨i, j, rfl, k⟩
theorem r_cat {R : Str → Str → Prop} (h : s.length + z.length ≤ sizeLine) (k : R s z) : ∃ i j, V.str s = .str i ∧ V.str z = .str j ∧ i.length + j.length ≤ sizeLine ∧ R i j := ⟨s, z, rfl, rfl, h, k⟩
theorem r_ss {R : Str → Str → Prop} (k : R s z) : ∃ i j, V.str s = .str i ∧ V.str z = .str j ∧ R i j := ⟨s, z, rfl, rfl, k⟩
theorem r_sign {c : Nat} {R : Nat → Str → Prop} (k : R c z) : ∃ (c' : Nat) (z' : Str), V.str ⟨#[c]⟩ = .str ⟨#[c']⟩ ∧ V.str z = .str z' ∧ R c' z' := ⟨c, z, rfl, rfl, k⟩
theorem r_refl (k : R) : V.non = V.non ∧ R := ⟨rfl, k⟩
theorem r_bm {T : String} {r : V → List V → Hp → VK → Prop} {to : TE} {t : TA} (k : to σ H fun x H1 => tyV K T x H1 ∧ t σ H1 fun xs H2 => r x xs H2 Q) : tBM K T r to t σ H Q := k
theorem r_bm0 {T : String} {r : V → List V → Hp → VK → Prop} {to : TE} (k : to σ H fun x H1 => tyV K T x H1 ∧ r x [] H1 Q) : tBM0 K T r to σ H Q := k
theorem r_tyL (h : SqL K H p xs) (k : R) : tyV K "list" (.ref p) H ∧ R := ⟨Or.inl ⟨rfl, xs, h⟩, k⟩
/-- xs[i] = v -/
theorem r_setW {QH : Hp → Prop} (w : Wd H0 ms H L) (hi : L[n]? = some (p, .lst xs)) (own : p ∈ ms ∨ H0 p = none) (e : ixN xs.length i = some m) (hy : xs.set m v = ys) (hL : L.set n (p, .lst ys) = L') (k : ∀ H1, Wd H0 ms H1 L' → QH H1) : rSetL (.ref p) (.int i) v H QH := by
  subst hy hL
  exact ⟨p, xs, i, m, rfl, rfl, w.at' _ (List.mem_of_getElem? hi), e, k _ (w.put hi own (fun _ z => by cases z))⟩
/-- xs.append(v) -/
theorem r_appW (w : Wd H0 ms H L) (hi : L[n]? = some (p, .lst xs)) (own : p ∈ ms ∨ H0 p = none) (e : xs.length < sizeLine) (hL : L.set n (p, .lst (xs ++ [v])) = L') (k : ∀ H1, Wd H0 ms H1 L' → Q .non H1) : rAppend (.ref p) [v] H Q := by
  subst hL
  exact ⟨p, xs, v, rfl, rfl, w.at' _ (List.mem_of_getElem? hi), e, k _ (w.put hi own (fun _ z => by cases z))⟩
theorem sz_ok (h : n ≤ 100000) : n ≤ sizeLine := Nat.le_trans h (by decide)
theorem sz_lt (h : n ≤ 100000) : n < sizeLine := Nat.lt_of_le_of_lt h (by decide)
end
end TZ

namespace TZ
open PySem PySem.W PySem.Calls PyProof.Rows
/-! ### isinstance of a caught own error that has its dict -/
section
variable {prog : Program} {w : World} {A : Around} {E : Value → Shared → Prop} {s : Shared} {K : Frag} {x D : Addr} {ox : Obj} {od : Option Obj}
theorem findObj_dd {C : Addr} {name : Str} {a g : Value} (c : (clsIn K C).isSome = true) (ha : findIn K (.ref C) name = some (some a)) (hg : specialIn K a "__get__" = some (some g)) (ht : takesIn K a = some true) :
    findObj K C od name = some (.bind g a) := by
  obtain ⟨cd, e⟩ := Option.isSome_iff_exists.mp c
  unfold findObj
  rw [e, Option.bind_some, ha, Option.bind_some]
  simp [hg, ht]
structure ExC (K : Frag) (D : Addr) : Prop where
  ga : findIn K (.ref D) "__getattribute__" = some (some (.builtin "BaseException.__getattribute__"))
  gt : findIn K (.ref D) "__getattr__" = some none
  sb : subIn K (.ref D) (.type "BaseException") = some true
  hd : hasDictIn K D = true
  ca : findIn K (.ref D) "__class__" = some (some (.builtin "object.__class__"))
  cg : specialIn K (.builtin "object.__class__") "__get__" = some (some (.builtin "getset_descriptor.__get__"))
  tk : takesIn K (.builtin "object.__class__") = some true
  mo : mroIn K D (.type "object") = some true
theorem ExC.cls (T : ExC K D) : (clsIn K D).isSome = true := by
  obtain ⟨cd, hc, _⟩ := any_some T.hd
  rw [hc]
  rfl
theorem ask_class {Q : Option Value → Shared → Prop} (T : ExC K D) (X : K.In s.heap) (I : InstAt s.heap x ox D od) (h : Q (some (.ref D)) { s with toks := s.toks + 1 }) : wpAny (model prog w) A (getAttr? (.ref x) "__class__") Q E s := by
  have fnd : findObj K D od "__class__" = some (.bind (.builtin "getset_descriptor.__get__") (.builtin "object.__class__")) := findObj_dd T.cls T.ca T.cg T.tk
  obtain ⟨hp, g, d, t, os⟩ := s
  have La := I.type (M := model prog w)
  have Lb := looks_findIn (M := model prog w) X T.ga
  have Lc := looks_findIn (M := model prog w) X T.gt
  have Ld := looks_find (M := model prog w) X I fnd
  have isX : Looks (model prog w) hp (isInstance (.ref x) (.type "BaseException")) true := La.andThen (looks_subIn X T.sb)
  have ne0 : (Value.builtin "BaseException.__getattribute__" == Value.builtin "object.__getattribute__") = false := by decide +kernel
  have ne1 : (onTheHeap (Value.ref D) && Value.builtin "BaseException.__getattribute__" == Value.builtin "object.__getattribute__") = false := by rw [ne0] <;> rfl
  have ne2 : (false && onTheHeap (Value.builtin "BaseException.__getattribute__")) = false := rfl
  unfold getAttr? getAttrBy? getAttrBy
  refine wpAny_bind (wpAny_mkText (wpAny_bind (wpAny_attempt (wpAny_holding (wpAny_bind (La.at (wpAny_bind (Lb.at ?_))))))))
  show wpAny _ _ (if (onTheHeap (Value.ref D) && Value.builtin "BaseException.__getattribute__" == Value.builtin "object.__getattribute__") = true then _ else _) _ _ _
  rw [ne1, if_neg Bool.false_ne_true]
  unfold getAttrByItsOwn hookBefore
  refine wpAny_bind ?_
  rw [if_pos (show onTheHeap (Value.ref D) = true from rfl)]
  refine Lc.at ?_
  refine wpAny_bind (wpAny_attempt (wpAny_holding ?_))
  unfold callGetattribute
  rw [ne2, if_neg Bool.false_ne_true]
  unfold boundAndCalled
  rw [PySem.F.excAttr_ValueError.ga.bind (.ref x)]
  refine wpAny_bind (wpAny_pure ?_)
  show wpAny _ _ (call (.builtin "BaseException.__getattribute__") [.ref x, .str "__class__" t]) _ _ _
  refine wpAny_call (codeAny_call_builtin PySem.F.excAttr_ValueError.ga.plain PySem.F.entry_bexc_ga ?_)
  refine @check_slot (model prog w) _ _ ⟨hp, g, d, t + 1, os⟩ "BaseException.__getattribute__" "BaseException" "__getattribute__" (.ref x) [.str "__class__" t] [] _ (by decide +kernel) (by decide +kernel) isX (PySem.F.args_bexc_ga (.ref x) (.str "__class__" t)) ?_
  unfold Builtin.«object.__getattribute__»
  refine wpAny_bind (wpAny_of_eq (a := ((Value.ref x : Value), [Value.str "__class__" t])) (by first | rfl | (simp only [slotArgs]; rfl)) ?_)
  refine wpAny_bind (wpAny_pure (wpAny_bind (La.at (wpAny_bind (Ld.at ?_)))))
  show wpAny _ _ (holding [Value.builtin "object.__class__"] (call (.builtin "getset_descriptor.__get__") [.builtin "object.__class__", .ref x, .ref D]) >>= ret) _ _ _
  refine wpAny_bind (wpAny_holding (wpAny_call (class_get (s := ⟨hp, g, d, t + 1, os⟩) (ox := ox) (od := od) X I T.mo ?_)))
  refine wpAny_pure ?_
  show wpAny _ _ (handedOut (.ref D)) _ _ _
  rw [handedOut_of (v := .ref D) rfl]
  first
    | exact wpAny_pure (wpAny_pure h)
    | exact wpAny_pure h
    | exact wpAny_pure (wpAny_bind (wpAny_pure (wpAny_pure h)))
theorem kit_x (T : ExC K D) : KitX K (.ref x) (.ref D) (fun h => ∃ od, InstAt h x ox D od) where
  ty := fun _ _ _ ⟨_, I⟩ => I.type
  it := fun _ _ X _ => by
    obtain ⟨cd, e⟩ := Option.isSome_iff_exists.mp T.cls
    unfold clsIn at e
    split at e
    · rename_i c' d' cd' sl' ho
      intro A' Q' E' s' k q
      unfold isType loadHead
      exact wpAny_bind (wpAny_loadPart (k _ _ (X _ _ ho)) (wpAny_pure q))
    · cases e
  ne := fun h tp dd its n sl X htp => by
    obtain ⟨cd, e⟩ := Option.isSome_iff_exists.mp T.cls
    refine Bool.eq_false_iff.mpr fun q => ?_
    have z : D = tp := Value.ref.inj (beq_iff_eq.mp q)
    subst z
    unfold clsIn at e
    split at e
    · rename_i c' d' cd' sl' ho
      cases (X _ _ ho).symm.trans htp
    · cases e
  ca := fun X ⟨_, I⟩ k => ask_class T X I k
end
end TZ
namespace TZ
open PySem L2
/-- isinstance(e, c), e the error that the suite holds: its class D, its dict at dd -/
def rIsX (K : PySem.W.Frag) (a : Addr) (cls : Value) (d : Option Addr) : List V → Hp → VK → Prop := fun xs H Q => ∃ (D dd : Addr) (fs : List (Str × V)) (c : V) (cv : Value) (b : Bool), cls = .ref D ∧ d = some dd ∧ H dd = some (.xd fs) ∧ ExC K D ∧ xs = [.ref a, c] ∧ (∀ u, RelV c u → u = cv) ∧ PySem.W.kitOne K (.ref D) cv = some b ∧ Q (.bl b) H
theorem call_isX {X : Cx} {a : Addr} {cls : Value} {d : Option Addr} {oe : Obj} {pn : List (Addr × Obj)} (hz : Zc cls d oe) (hf : ∃ vs, oe.data = .fields vs) : CallR (X.suite a ((a, oe) :: pn)) (.builtin "isinstance") (rIsX X.K a cls d) := by
  intro pins s σ H xs us Q I r h
  obtain ⟨D, dd, fs, c, cv, b, rfl, rfl, hdd, T, rfl, hcv, e, q⟩ := h
  cases r with
  | cons rx rr =>
    cases rr with
    | cons rt rr =>
      cases rr
      cases rx
      have ec := hcv _ rt
      subst ec
      obtain ⟨hget, _⟩ := I.pin (a, oe) (List.mem_append.mpr (.inl List.mem_cons_self))
      obtain ⟨vs, hv⟩ := hf
      have hx : ObjOk X.prog X.w H s.heap dd (.xd fs) := I.hok dd _ hdd
      obtain ⟨mA, hns, hr⟩ := hx
      obtain ⟨od, ho, hl⟩ := lookIn_ns hns
      have J : PySem.W.InstAt s.heap a oe D (some od) := ⟨hget, hz.1, by unfold PySem.W.notCls; rw [hv] <;> rfl, by rw [hz.2]; exact ho⟩
      exact PySem.W.kia_one (kit_x (ox := oe) T) I.kIn ⟨some od, J⟩ e (fun z => nomatch z) fun tk => ⟨.bl b, H, I.kept (t' := tk) fun _ _ z => z, rfl, q⟩
end TZ

namespace TZ
open PySem L2
/-! ### errors with one field, with two: __init__'s promise, the making, the raise -/
def spErr1 (C : Addr) (f1 : Str) : Sp := fun vs H Q _ => ∃ (a : Addr) (x : V), vs = [.ref a, x] ∧ H a = some (exo a C none) ∧
  ∀ d, H d = none → d ≠ a → Q .non (upd (upd H d (exd d [(f1, x)])) a (exo a C (some d)))
def spErr2 (C : Addr) (f1 f2 : Str) : Sp := fun vs H Q _ => ∃ (a : Addr) (x y : V), vs = [.ref a, x, y] ∧ H a = some (exo a C none) ∧
  ∀ d, H d = none → d ≠ a → Q .non (upd (upd (upd H d (exd d [(f1, x)])) a (exo a C (some d))) d (exd d [(f2, y), (f1, x)]))
theorem mk_err1 {C : Addr} {f1 : Str} {tl : TA} {σ : L2.St} {H : Hp} {Q : XK} (k : tl σ H fun vs H1 => ∃ x, vs = [x] ∧ ∀ d, H1 d = none → Q (.ref C) (some d) (upd H1 d (.xd [(f1, x)]))) (mono : ∀ (R R' : List V → Hp → Prop), (∀ vs H1, R vs H1 → R' vs H1) → tl σ H R → tl σ H R') : tMkO C (spErr1 C f1) [] tl σ H Q := by
  refine mono _ _ (fun vs H1 h => ?_) k
  obtain ⟨x, rfl, q⟩ := h
  refine ⟨by show 1 ≤ 1000; decide, fun a na => ⟨a, x, rfl, upd_same, fun d nd da => ⟨rfl, d, [(f1, x)], upd_same, ?_, ?_, ?_⟩⟩⟩
  · rw [upd_ne da, upd_same]
  · rw [upd_ne da] at nd
    exact nd
  · rw [upd_ne da] at nd
    have e : upd (L2.del (upd (upd (upd H1 a (exo a C none)) d (exd d [(f1, x)])) a (exo a C (some d))) a) d (.xd [(f1, x)]) = upd H1 d (.xd [(f1, x)]) := by
      funext b
      by_cases h1 : b = d
      · rw [h1, upd_same, upd_same]
      · rw [upd_ne h1, upd_ne h1]
        by_cases h2 : b = a
        · rw [h2, del_same, na]
        · rw [del_ne h2, upd_ne h2, upd_ne h1, upd_ne h2]
    rw [e]
    exact q d nd
theorem mk_err2 {C : Addr} {f1 f2 : Str} {tl : TA} {σ : L2.St} {H : Hp} {Q : XK} (k : tl σ H fun vs H1 => ∃ x y, vs = [x, y] ∧ ∀ d, H1 d = none → Q (.ref C) (some d) (upd H1 d (.xd [(f2, y), (f1, x)]))) (mono : ∀ (R R' : List V → Hp → Prop), (∀ vs H1, R vs H1 → R' vs H1) → tl σ H R → tl σ H R') : tMkO C (spErr2 C f1 f2) [] tl σ H Q := by
  refine mono _ _ (fun vs H1 h => ?_) k
  obtain ⟨x, y, rfl, q⟩ := h
  refine ⟨by show 2 ≤ 1000; decide, fun a na => ⟨a, x, y, rfl, upd_same, fun d nd da => ⟨rfl, d, [(f2, y), (f1, x)], ?_, upd_same, ?_, ?_⟩⟩⟩
  · rw [upd_ne (Ne.symm da), upd_same]
  · rw [upd_ne da] at nd
    exact nd
  · rw [upd_ne da] at nd
    have e : upd (L2.del (upd (upd (upd (upd H1 a (exo a C none)) d (exd d [(f1, x)])) a (exo a C (some d))) d (exd d [(f2, y), (f1, x)])) a) d (.xd [(f2, y), (f1, x)]) = upd H1 d (.xd [(f2, y), (f1, x)]) := by
      funext b
      by_cases h1 : b = d
      · rw [h1, upd_same, upd_same]
      · rw [upd_ne h1, upd_ne h1]
        by_cases h2 : b = a
        · rw [h2, del_same, na]
        · rw [del_ne h2, upd_ne h1, upd_ne h2, upd_ne h1, upd_ne h2]
    rw [e]
    exact q d nd
/-- two arguments by name, one argument -/
theorem mono_2 {i j : Nat} {σ : L2.St} {H : Hp} (R R' : List V → Hp → Prop) (h : ∀ vs H1, R vs H1 → R' vs H1) (k : tCons (tVar i) (tCons (tVar j) tNil) σ H R) : tCons (tVar i) (tCons (tVar j) tNil) σ H R' := by
  obtain ⟨v, e, w, e2, q⟩ := k
  exact ⟨v, e, w, e2, h _ _ q⟩
theorem mono_1 {i : Nat} {σ : L2.St} {H : Hp} (R R' : List V → Hp → Prop) (h : ∀ vs H1, R vs H1 → R' vs H1) (k : tCons (tVar i) tNil σ H R) : tCons (tVar i) tNil σ H R' := by
  obtain ⟨v, e, q⟩ := k
  exact ⟨v, e, h _ _ q⟩
/-- self.f = e on an exception that is being made -/
theorem r_ost0 {K : PySem.W.Frag} {f : Str} {C a : Addr} {i j : Nat} {σ : L2.St} {H : Hp} {y : V} {nx bk ct : L2.St → Hp → Prop} {rt : VK} (ho : σ[i]? = some (some (.ref a))) (hv : σ[j]? = some (some y)) (T : OexC K C) (nf : PySem.W.findIn K (.ref C) f = some none) (ha : H a = some (exo a C none))
    (k : ∀ d, H d = none → d ≠ a → nx σ (upd (upd H d (exd d [(f, y)])) a (exo a C (some d)))) : tOst K f (tVar i) (tVar j) ⟨nx, rt, bk, ct⟩ σ H :=
  ⟨y, hv, .ref a, ho, a, C, rfl, T, nf, .inl ⟨ha, k⟩⟩
theorem r_ost1 {K : PySem.W.Frag} {f : Str} {C a d : Addr} {i j : Nat} {σ : L2.St} {H : Hp} {y : V} {fs : List (Str × V)} {nx bk ct : L2.St → Hp → Prop} {rt : VK} (ho : σ[i]? = some (some (.ref a))) (hv : σ[j]? = some (some y)) (T : OexC K C) (nf : PySem.W.findIn K (.ref C) f = some none) (ha : H a = some (exo a C (some d)))
    (hd : H d = some (exd d fs)) (hl : fs.length ≤ 900) (k : nx σ (upd H d (exd d ((f, y) :: fs)))) : tOst K f (tVar i) (tVar j) ⟨nx, rt, bk, ct⟩ σ H :=
  ⟨y, hv, .ref a, ho, a, C, rfl, T, nf, .inr ⟨d, fs, ha, hd, hl, k⟩⟩
/-! ### dicts with text keys, fields, loops -/
section
variable {K : PySem.W.Frag} {σ : L2.St} {H H0 : Hp} {ms : List Addr} {L L' : List (Addr × HO)} {Q : VK} {R B : Prop} {a p d : Addr} {xs ys : List V} {x y v : V} {i j : Int} {s z : Str} {n m : Nat} {td ty tv te tl : TE} {ta : TA} {kvs : List (Key × V)} {nx bk ct : L2.St → Hp → Prop} {rt : VK}
def DGQ (x y : V) (H : Hp) (Q : VK) : Prop := ∃ a v, x = .ref a ∧ DGet H a y (some v) ∧ Q v H
def DIQ (y x : V) (H : Hp) (R : Bool → Prop) : Prop := ∃ a o, x = .ref a ∧ DGet H a y o ∧ R o.isSome
theorem r_dget (k : td σ H fun x H1 => ty σ H1 fun y H2 => DGQ x y H2 Q) : tDGet td ty σ H Q := k
theorem r_din (k : ty σ H fun y H1 => td σ H1 fun x H2 => DIQ y x H2 fun b => Q (.bl b) H2) : tDIn ty td σ H Q := k
theorem r_dnin (k : ty σ H fun y H1 => td σ H1 fun x H2 => DIQ y x H2 fun b => Q (.bl (!b)) H2) : tDNotIn ty td σ H Q := k
theorem r_dgetS (h : Rd H d (.dK kvs)) (e : valV kvs (Sum.inr s) = some v) (k : Q v H) : DGQ (.ref d) (.str s) H Q := ⟨d, v, rfl, .inl ⟨kvs, Sum.inr s, h, rfl, e.symm⟩, k⟩
theorem r_dinS {R : Bool → Prop} (h : Rd H d (.dK kvs)) (k : R (valV kvs (Sum.inr s)).isSome) : DIQ (.str s) (.ref d) H R := ⟨d, _, rfl, .inl ⟨kvs, Sum.inr s, h, rfl, rfl⟩, k⟩
def DPQ (v x y : V) (H : Hp) (N : Hp → Prop) : Prop := ∃ a H4, x = .ref a ∧ DPut H a y v H4 ∧ N H4
theorem r_dput (k : tv σ H fun v H1 => td σ H1 fun x H2 => ty σ H2 fun y H3 => DPQ v x y H3 (nx σ)) : sDPut td ty tv ⟨nx, rt, bk, ct⟩ σ H := k
theorem r_dputS {N : Hp → Prop} (w : Wd H0 ms H L) (hi : L[n]? = some (d, .dK kvs)) (own : d ∈ ms ∨ H0 d = none) (hl : kvs.length < sizeLine) (hL : L.set n (d, .dK (putK kvs (Sum.inr s) v)) = L') (k : ∀ H1, Wd H0 ms H1 L' → N H1) : DPQ v (.ref d) (.str s) H N := by
  subst hL
  exact ⟨d, _, rfl, DPut.k (k := Sum.inr s) (w.at' _ (List.mem_of_getElem? hi)) hl, k _ (w.put hi own (fun _ z => by cases z))⟩
theorem r_dnew (w : Wd H0 ms H L) (k : ∀ p H1, H p = none → H0 p = none → Wd H0 ms H1 ((p, .dK []) :: L) → Q (.ref p) H1) : tDNewK σ H Q := fun p n => k p _ n (w.free n) (w.new n)
def DSQ (a : Addr) (y z : V) (H : Hp) (Q : VK) : Prop := ∃ (kvs : List (Key × V)) (k : Key), H a = some (.dK kvs) ∧ y = kV k ∧ kvs.length < sizeLine ∧ (∀ v, valV kvs k = some v → Q v H) ∧ (valV kvs k = none → Q z (upd H a (.dK (putK kvs k z))))
def DS0 (x : V) (H : Hp) (C : Addr → Prop) : Prop := ∃ a, x = .ref a ∧ IsD H a ∧ C a
theorem r_dsetd (k : td σ H fun x H1 => DS0 x H1 fun a => ty σ H1 fun y H2 => tv σ H2 fun z H3 => DSQ a y z H3 Q) : tDSetd td ty tv σ H Q := k
theorem r_ds0 {C : Addr → Prop} (h : H d = some (.dK kvs)) (k : C d) : DS0 (.ref d) H C := ⟨d, rfl, .inl ⟨kvs, .inl h⟩, k⟩
theorem r_dsS (w : Wd H0 ms H L) (hi : L[n]? = some (d, .dK kvs)) (own : d ∈ ms ∨ H0 d = none) (hl : kvs.length < sizeLine) (hL : L.set n (d, .dK (putK kvs (Sum.inr s) v)) = L')
    (k1 : ∀ u, valV kvs (Sum.inr s) = some u → Q u H) (k2 : valV kvs (Sum.inr s) = none → ∀ H1, Wd H0 ms H1 L' → Q v H1) : DSQ d (.str s) v H Q := by
  subst hL
  exact ⟨kvs, Sum.inr s, w.at' _ (List.mem_of_getElem? hi), rfl, hl, k1, fun e => k2 e _ (w.put hi own (fun _ z => by cases z))⟩
theorem r_lenD {R : List (Key × V) → Prop} (h : H d = some (.dK kvs)) (k : R kvs) : ∃ a kvs', [V.ref d] = [V.ref a] ∧ H a = some (.dK kvs') ∧ R kvs' := ⟨d, kvs, rfl, h, k⟩
/-! fields -/
def FlQ (K : PySem.W.Frag) (f : Str) (x : V) (H : Hp) (Q : VK) : Prop := ∃ a C dx fs v, x = .ref a ∧ H a = some (.ins C dx fs) ∧ Cls K C ∧ NoAttr K C f ∧ fs.lookup f = some v ∧ Q v H
theorem r_fld {f : Str} (k : te σ H fun x H1 => FlQ K f x H1 Q) : tFld K te f σ H Q := k
theorem r_fldW {f : Str} {C dx : Addr} {fs : List (Str × V)} (h : H a = some (.ins C dx fs)) (c : Cls K C) (nf : NoAttr K C f) (l : fs.lookup f = some v) (k : Q v H) : FlQ K f (.ref a) H Q := ⟨a, C, dx, fs, v, rfl, h, c, nf, l, k⟩
def FsQ (K : PySem.W.Frag) (f : Str) (y x : V) (H : Hp) (N : Hp → Prop) : Prop := ∃ a C dx fs, x = .ref a ∧ H a = some (.ins C dx fs) ∧ Cls K C ∧ NoAttr K C f ∧ fs.length < 1000 ∧ N (upd H a (.ins C dx (putF f y fs)))
theorem r_fset {f : Str} (k : tv σ H fun y H1 => te σ H1 fun x H2 => FsQ K f y x H2 (nx σ)) : sFld K te tv f ⟨nx, rt, bk, ct⟩ σ H := k
theorem r_fsetW {f : Str} {C dx : Addr} {fs fs' : List (Str × V)} {N : Hp → Prop} (w : Wd H0 ms H L) (hi : L[n]? = some (a, .ins C dx fs)) (own : a ∈ ms ∨ H0 a = none) (c : Cls K C) (nf : NoAttr K C f) (hl : fs.length < 1000) (hf : putF f y fs = fs') (hL : L.set n (a, .ins C dx fs') = L')
    (k : ∀ H1, Wd H0 ms H1 L' → N H1) : FsQ K f y (.ref a) H N := by
  subst hf hL
  exact ⟨a, C, dx, fs, rfl, w.at' _ (List.mem_of_getElem? hi), c, nf, hl, k _ (w.put hi own (fun _ z => by cases z))⟩
/-! loops -/
def ForQ (J : It) (g : TG) (tb : TS) (D : Ends) (σ : L2.St) (H : Hp) : Prop := ∃ W : Nat → Nat → L2.St → Hp → Prop, (∃ m, W 0 m σ H) ∧ ∀ i m σ H, W i m σ H →
  (J.stop i H ∧ D.nx σ H) ∨ (J.go i H ∧ ∃ N : L2.St → Hp → Prop, (∀ σ' H', N σ' H' → ∃ m', m' < m ∧ W (i + 1) m' σ' H') ∧ ∀ x H', J.yld i H x H' → g x σ H' fun σ2 H2 => tb { D with nx := N, ct := N, bk := D.nx } σ2 H2)
theorem r_for {wi : TI} {g : TG} {tb : TS} {D : Ends} (k : wi σ H fun J H1 => ForQ J g tb D σ H1) : tFor wi g tb D σ H := k
def LsQ (K : PySem.W.Frag) (x : V) (H : Hp) (R : It → Hp → Prop) : Prop := ∃ a, x = .ref a ∧ (∃ xs, SqL K H a xs) ∧ R (Itl K a) H
def RgQ (vs : List V) (H : Hp) (R : It → Hp → Prop) : Prop := ∃ j : Int, vs = [.int j] ∧ -(2 ^ 62) ≤ j ∧ j < 2 ^ 62 ∧ R (Itr 0 j.toNat) H
def StQ (x : V) (H : Hp) (R : It → Hp → Prop) : Prop := ∃ s, x = .str s ∧ R (Its s) H
def EsQ (vs : List V) (H : Hp) (R : It → Hp → Prop) : Prop := ∃ x, vs = [.str x] ∧ R (Ites x) H
def ElQ (K : PySem.W.Frag) (vs : List V) (H : Hp) (R : It → Hp → Prop) : Prop := ∃ a xs, vs = [.ref a] ∧ SqL K H a xs ∧ R (Ite K a) H
variable {RI : It → Hp → Prop}
theorem r_iList (k : te σ H fun x H1 => LsQ K x H1 RI) : iList K te σ H RI := k
theorem r_iRng1 (k : ta σ H fun vs H1 => RgQ vs H1 RI) : iRng1 ta σ H RI := k
theorem r_iStr (k : te σ H fun x H1 => StQ x H1 RI) : iStr te σ H RI := k
theorem r_iEs (k : ta σ H fun vs H1 => EsQ vs H1 RI) : iEnumS ta σ H RI := k
theorem r_iEl (k : ta σ H fun vs H1 => ElQ K vs H1 RI) : iEnum K ta σ H RI := k
theorem r_LsQ (h : SqL K H a xs) (k : RI (Itl K a) H) : LsQ K (.ref a) H RI := ⟨a, rfl, ⟨xs, h⟩, k⟩
theorem r_RgQ (h : -1000000 ≤ j ∧ j ≤ 1000000) (k : RI (Itr 0 j.toNat) H) : RgQ [.int j] H RI := ⟨j, rfl, by omega, by omega, k⟩
theorem r_StQ (k : RI (Its s) H) : StQ (.str s) H RI := ⟨s, rfl, k⟩
theorem r_EsQ (k : RI (Ites s) H) : EsQ [.str s] H RI := ⟨s, rfl, k⟩
theorem r_ElQ (h : SqL K H a xs) (k : RI (Ite K a) H) : ElQ K [.ref a] H RI := ⟨a, xs, rfl, h, k⟩
variable {g : TG} {tb : TS}
theorem f_list (Pv : Nat → L2.St → Hp → Prop) (h0 : Pv 0 σ H) (hl : ∀ i σ H, i ≤ xs.length → Pv i σ H → SqL K H a xs)
    (hs : ∀ i x σ H, xs[i]? = some x → Pv i σ H → g x σ H fun σ2 H2 => tb ⟨Pv (i + 1), rt, nx, Pv (i + 1)⟩ σ2 H2) (hd : ∀ σ H, Pv xs.length σ H → nx σ H) : ForQ (Itl K a) g tb ⟨nx, rt, bk, ct⟩ σ H :=
  for_list (D := ⟨nx, rt, bk, ct⟩) Pv h0 hl hs hd
theorem f_range {lo : Int} (Pv : Nat → L2.St → Hp → Prop) (h0 : Pv 0 σ H)
    (hs : ∀ (i : Nat) σ H, i < n → Pv i σ H → g (.int (lo + i)) σ H fun σ2 H2 => tb ⟨Pv (i + 1), rt, nx, Pv (i + 1)⟩ σ2 H2) (hd : ∀ σ H, Pv n σ H → nx σ H) : ForQ (Itr lo n) g tb ⟨nx, rt, bk, ct⟩ σ H :=
  for_range (D := ⟨nx, rt, bk, ct⟩) Pv h0 hs hd
theorem f_rng (Pv : Nat → L2.St → Hp → Prop) (h0 : Pv 0 σ H)
    (hs : ∀ (i : Nat) σ H, i < n → Pv i σ H → g (.int (i : Int)) σ H fun σ2 H2 => tb ⟨Pv (i + 1), rt, nx, Pv (i + 1)⟩ σ2 H2) (hd : ∀ σ H, Pv n σ H → nx σ H) : ForQ (Itr 0 n) g tb ⟨nx, rt, bk, ct⟩ σ H :=
  f_range Pv h0 (fun i σ H hi p => by rw [Int.zero_add]; exact hs i σ H hi p) hd
theorem f_enumS {w : Str} (Pv : Nat → L2.St → Hp → Prop) (h0 : Pv 0 σ H)
    (hs : ∀ i c T σ H, w.cps[i]? = some c → Pv i σ H → H T = none → g (.ref T) σ (upd H T (.tup [.int (i : Nat), .str ⟨#[c]⟩])) fun σ2 H2 => tb ⟨Pv (i + 1), rt, nx, Pv (i + 1)⟩ σ2 H2)
    (hd : ∀ σ H, Pv w.cps.size σ H → nx σ H) : ForQ (Ites w) g tb ⟨nx, rt, bk, ct⟩ σ H :=
  for_enumS (D := ⟨nx, rt, bk, ct⟩) Pv h0 hs hd
theorem f_str {w : Str} (Pv : Nat → L2.St → Hp → Prop) (h0 : Pv 0 σ H)
    (hs : ∀ i c σ H, w.cps[i]? = some c → Pv i σ H → g (.str ⟨#[c]⟩) σ H fun σ2 H2 => tb ⟨Pv (i + 1), rt, nx, Pv (i + 1)⟩ σ2 H2)
    (hd : ∀ σ H, Pv w.cps.size σ H → nx σ H) : ForQ (Its w) g tb ⟨nx, rt, bk, ct⟩ σ H := by
  refine ⟨fun i m σ H => m = w.cps.size - i ∧ i ≤ w.cps.size ∧ Pv i σ H, ⟨w.cps.size, by simp, Nat.zero_le _, h0⟩, ?_⟩
  rintro i m σ H ⟨rfl, hi, p⟩
  by_cases hlt : i < w.cps.size
  · refine .inr ⟨hlt, Pv (i + 1), fun σ' H' p' => ⟨w.cps.size - (i + 1), by omega, rfl, hlt, p'⟩, fun x' H' y => ?_⟩
    obtain ⟨rfl, c, hc, rfl⟩ := y
    exact hs i c σ _ hc p
  · have e : i = w.cps.size := by omega
    subst e
    exact .inl ⟨Nat.le_refl _, hd σ H p⟩
theorem f_enumL (Pv : Nat → L2.St → Hp → Prop) (h0 : Pv 0 σ H) (hl : ∀ i σ H, i ≤ xs.length → Pv i σ H → SqL K H a xs)
    (hs : ∀ i x T σ H, xs[i]? = some x → Pv i σ H → H T = none → g (.ref T) σ (upd H T (.tup [.int (i : Nat), x])) fun σ2 H2 => tb ⟨Pv (i + 1), rt, nx, Pv (i + 1)⟩ σ2 H2) (hd : ∀ σ H, Pv xs.length σ H → nx σ H) : ForQ (Ite K a) g tb ⟨nx, rt, bk, ct⟩ σ H := by
  refine ⟨fun i m σ H => m = xs.length - i ∧ i ≤ xs.length ∧ Pv i σ H, ⟨xs.length, by simp, Nat.zero_le _, h0⟩, ?_⟩
  rintro i m σ H ⟨rfl, hi, p⟩
  have q := hl i σ H hi p
  by_cases hlt : i < xs.length
  · refine .inr ⟨⟨xs, xs[i], q, by simp [hlt]⟩, Pv (i + 1), fun σ' H' p' => ⟨xs.length - (i + 1), by omega, rfl, hlt, p'⟩, fun x' H' y => ?_⟩
    obtain ⟨T, x, rfl, nT, rfl, hx⟩ := y
    exact hs i x T σ H (hx xs q) p nT
  · have e : i = xs.length := by omega
    subst e
    exact .inl ⟨⟨xs, q, Nat.le_refl _⟩, hd σ H p⟩
/-! a comprehension over a list, no test -/
def LcQ (J : It) (g : TG) (te : TE) (vs : List Nat) (D : Addr) (σ : L2.St) (H1 : Hp) (R : Hp → Prop) : Prop := ∃ W : Nat → Nat → Hp → Prop, (∃ m, W 0 m (upd H1 D (.lst []))) ∧ ∀ i m H, W i m H →
  (J.stop i H ∧ R H) ∨ (J.go i H ∧ ∃ Nx : Hp → Prop, (∀ H', Nx H' → ∃ m', m' < m ∧ W (i + 1) m' H') ∧ ∀ x H', J.yld i H x H' → g x (wipe σ vs) H' fun σ2 H2 => wipe σ2 vs = wipe σ vs ∧ tYes σ2 H2 fun b H3 =>
    if b = true then te σ2 H3 fun y H4 => ∃ acc, H4 D = some (.lst acc) ∧ acc.length < sizeLine ∧ Nx (upd H4 D (.lst (acc ++ [y]))) else Nx H3)
theorem r_lc {wi : TI} {g : TG} {vs : List Nat} (k : wi σ H fun J H1 => ∀ D, H1 D = none → LcQ J g te vs D σ H1 fun H' => Q (.ref D) H') : tLc wi g tYes te vs σ H Q := k
theorem f_lcN {vs : List Nat} {D : Addr} {R' : Hp → Prop} {gn : Nat} (w : Wd H0 ms H L) (nD : H D = none) (hz : xs.length ≤ 100000) (f : Nat → V) (hx : ∀ H1 L1, Wd H0 ms H1 ((D, .lst L1) :: L) → SqL K H1 a xs)
    (hw : ∀ x, wipe ((wipe σ vs).set gn (some x)) vs = wipe σ vs)
    (hs : ∀ (i : Nat) x H1 L1, xs[i]? = some x → Wd H0 ms H1 ((D, .lst L1) :: L) → te ((wipe σ vs).set gn (some x)) H1 fun y H2 => y = f i ∧ H2 = H1) (k : ∀ H1, Wd H0 ms H1 ((D, .lst ((List.range xs.length).map f)) :: L) → R' H1)
    (mono : ∀ (σ : L2.St) (H : Hp) (Q Q' : VK), (∀ y H1, Q y H1 → Q' y H1) → te σ H Q → te σ H Q') : LcQ (Itl K a) (gName gn) te vs D σ H R' := by
  have fD : H0 D = none := w.free nD
  refine lc_list (K := K) (a := a) (xs := xs) (Qd := R') (fun i H1 => i ≤ xs.length ∧ Wd H0 ms H1 ((D, .lst ((List.range i).map f)) :: L)) ⟨Nat.zero_le _, w.new nD⟩ (fun i H1 _ p => hx H1 _ p.2) (fun i x H1 hi p => ?_) (fun H1 p => k H1 p.2)
  obtain ⟨_, p⟩ := p
  have hil : i < xs.length := (List.getElem?_eq_some_iff.mp hi).1
  refine ⟨hw x, ?_⟩
  unfold tYes
  refine iteT ?_
  refine mono _ _ _ _ (fun y H2 z => ?_) (hs i x H1 _ hi p)
  obtain ⟨rfl, rfl⟩ := z
  refine ⟨_, p.at (List.Mem.head _), by rw [List.length_map, List.length_range]; exact Nat.lt_of_lt_of_le hil (Nat.le_trans hz (by decide)), hil, ?_⟩
  have q := p.put (i := 0) (o' := .lst ((List.range i).map f ++ [f i])) rfl (.inr fD) (fun _ z => by cases z)
  rw [List.range_succ, List.map_append]
  exact q
/-! isinstance of a value, a call of an instance, a new instance -/
theorem r_isi {t u : Value} {b : Bool} (hc : ClsV y u) (ht : TyX K H x t) (hk : PySem.W.kitOne K t u = some b) (k : Q (.bl b) H) : rIsi K [x, y] H Q := ⟨x, y, t, u, b, rfl, hc, ht, hk, k⟩
end
end TZ
namespace TZ
open PySem L2
/-- a constant of the module -/
theorem pe_gc {X : Cx} {x z : Str} {pos : Pos} (hg : Gl X x) (h : ∃ t, X.mg x = some (.str z t)) (hd : (x == ("__debug__" : Str)) = false := by decide) : PE X (.Name x pos) (tC (.str z)) := by
  obtain ⟨t, h⟩ := h
  exact pe_glob hg h ⟨t, rfl⟩ hd
theorem pe_gi {X : Cx} {x : Str} {i : Int} {pos : Pos} (hg : Gl X x) (h : ∃ t, X.mg x = some (.int i t)) (hd : (x == ("__debug__" : Str)) = false := by decide) : PE X (.Name x pos) (tC (.int i)) := by
  obtain ⟨t, h⟩ := h
  exact pe_glob hg h ⟨t, rfl⟩ hd
end TZ
namespace TZ
open PySem L2
theorem pe_gr {X : Cx} {x : Str} {C : Addr} {pos : Pos} (hg : Gl X x) (h : X.mg x = some (.ref C)) (hd : (x == ("__debug__" : Str)) = false := by decide) : PE X (.Name x pos) (tC (.ref C)) := pe_glob hg h rfl hd
end TZ

namespace TZ
open PySem L2
def topS (i : Nat) : Stmt := PySem.Challenge.pw_treesfromyes_k87_turner_fits_or_clash.main.body.getD i (.Pass ⟨0, 0, 0, 0⟩)
/-! ### an error class of the program: what the top says of it, and its __init__ -/
structure ErrC (K : PySem.W.Frag) (mg : Str → Option Value) (x : Str) (C fI : Addr) : Prop where
  oex : OexC K C
  iC : PySem.W.findIn K (.ref C) "__init__" = some (some (.ref fI))
  tI : PySem.W.typeIn K (.ref fI) = some (.type "function")
  gC : mg x = some (.ref C)
  xf : XfC K C
  ex : ExC K C
structure Raiser (P : Program) (w : World) (K : PySem.W.Frag) (mg : Str → Option Value) (base : Heap) (x : Str) (C : Addr) (sp : Sp) : Prop where
  run : ∃ (fI : Addr) (fd : FuncData) (ps : List Str), ErrC K mg x C fI ∧ FnOk P w K mg base L2.CX0 1 fI fd ps sp ∧ Binds K fd ps []
theorem Raiser.err {P : Program} {w : World} {K : PySem.W.Frag} {mg : Str → Option Value} {base : Heap} {x : Str} {C : Addr} {sp : Sp} (R : Raiser P w K mg base x C sp) : ∃ fI, ErrC K mg x C fI := by
  obtain ⟨fI, _, _, E, _⟩ := R.run
  exact ⟨fI, E⟩
theorem pmk_err {X : Cx} {x : Str} {C : Addr} {sp : Sp} {j : Nat} {p pos : Pos} {e : Expr} {es : List Expr} {ta : TA} (R : Raiser X.prog X.w X.K X.mg X.base x C sp) (hr : Room j X.A) (hj : 2 ≤ j) (hg : Gl X x) (ha : PA X (e :: es) ta)
    (hdb : (x == ("__debug__" : Str)) = false := by decide) (he : starEach (e :: es) X.env = (false, eval e X.env) :: starEach es X.env := by rfl) (hpl : (backTo pos (starEach es X.env)).any (·.1) = false := by rfl) :
    PMk X (.Call (.Name x p) (e :: es) [] pos) (tMkO C sp [] ta) := by
  obtain ⟨fI, fd, ps, E, F, b⟩ := R.run
  exact pmk_oex E.oex E.iC E.tI F (hr.mono hj) b .nil pass0 hg E.gC ha hdb he hpl
/-- the addresses of the top's classes -/
structure Ad where
  cl : Addr
  cw : Addr
  ct : Addr
  tu : Addr
/-- what the top leaves of names and classes -/
structure Txt (K : PySem.W.Frag) (mg : Str → Option Value) (a : Ad) : Prop where
  n_len : mg "len" = none
  n_int : mg "int" = none
  n_abs : mg "abs" = none
  n_max : mg "max" = none
  n_range : mg "range" = none
  n_enumerate : mg "enumerate" = none
  n_isinstance : mg "isinstance" = none
  n_tuple : mg "tuple" = none
  n_dict : mg "dict" = none
  n_list : mg "list" = none
  n_bool : mg "bool" = none
  g_SMALL : ∃ t, mg "SMALL" = some (.str "abcdefghijklmnopqrstuvwxyz" t)
  g_MOST_KINDS_OF_LETTERS : ∃ t, mg "MOST_KINDS_OF_LETTERS" = some (.int 4 t)
  g_LanguageError : mg "LanguageError" = some (.ref a.cl)
  g_BadWord : mg "BadWord" = some (.ref a.cw)
  g_BadText : mg "BadText" = some (.ref a.ct)
  g_Turner : mg "Turner" = some (.ref a.tu)
  noW : PySem.W.findIn K (.ref a.cw) "word" = some none
  noP : PySem.W.findIn K (.ref a.cw) "place" = some none
  noL : PySem.W.findIn K (.ref a.ct) "line" = some none
  kww : PySem.W.kitOne K (.ref a.cw) (.ref a.cw) = some true
  kwt : PySem.W.kitOne K (.ref a.cw) (.ref a.ct) = some false
  ktw : PySem.W.kitOne K (.ref a.ct) (.ref a.cw) = some false
  ktt : PySem.W.kitOne K (.ref a.ct) (.ref a.ct) = some true
  xw : PySem.W.exmOne K (.ref a.cw) (.ref a.cl) = some true
  xt : PySem.W.exmOne K (.ref a.ct) (.ref a.cl) = some true
  inT : C8.InsC K a.tu
  nLe : NoAttr K a.tu "letters"
  nIm : NoAttr K a.tu "images"
  nSi : NoAttr K a.tu "size"
  nTa : NoAttr K a.tu "table"
end TZ
namespace TZ
open PySem L2
/-- a class of the top that may be made by its name -/
structure MakX (P : Program) (w : World) (K : PySem.W.Frag) (mg : Str → Option Value) (base : Heap) (k : Nat) (x : Str) (C : Addr) (sp : Sp) : Prop where
  ex : ∃ (f : Addr) (fd : FuncData) (ps : List Str), Mk K C f ∧ FnOk P w K mg base L2.CX0 k f fd ps sp ∧ mg x = some (.ref C) ∧ Binds K fd ps []
theorem pe_mkx {X : Cx} {k j : Nat} {C : Addr} {x : Str} {sp : Sp} {p pos : Pos} {e : Expr} {es : List Expr} {t : TA} (c : MakX X.prog X.w X.K X.mg X.base k x C sp) (hr : Room j X.A) (hk : k + 1 ≤ j) (hg : Gl X x) (ha : PA X (e :: es) t)
    (hdb : (x == ("__debug__" : Str)) = false := by decide) (he : starEach (e :: es) X.env = (false, eval e X.env) :: starEach es X.env := by rfl) (hpl : (backTo pos (starEach es X.env)).any (·.1) = false := by rfl) :
    PE X (.Call (.Name x p) (e :: es) [] pos) (tMake C sp [] E0 t) := by
  obtain ⟨f, fd, ps, M, F, hm, b⟩ := c.ex
  exact pe_make M F (hr.mono hk) hg hm b .nil pass0 ha hdb he hpl
def MkQ (C : Addr) (sp : Sp) (E : XK) (vs : List V) (H1 : Hp) (Q : VK) : Prop := ∀ x dx, H1 x = none → H1 dx = none → dx ≠ x → sp (.ref x :: vs) (upd (upd H1 dx (.own x)) x (.ins C dx [])) (fun v H2 => v = .non ∧ Q (.ref x) H2) E
theorem r_make {C : Addr} {sp : Sp} {E : XK} {tl : TA} {σ : L2.St} {H : Hp} {Q : VK} (k : tl σ H fun vs H1 => MkQ C sp E vs H1 Q) : tMake C sp [] E tl σ H Q := by
  unfold tMake
  simp only [List.append_nil]
  exact k
theorem r_mkQ {H0 H : Hp} {ms : List Addr} {L : List (Addr × HO)} {C : Addr} {sp : Sp} {E : XK} {vs : List V} {Q : VK} (w : Wd H0 ms H L)
    (k : ∀ (x dx : Addr) (H1 : Hp), H x = none → H0 x = none → H0 dx = none → Wd H0 ms H1 ((x, .ins C dx []) :: (dx, .own x) :: L) → sp (.ref x :: vs) H1 (fun v H2 => v = .non ∧ Q (.ref x) H2) E) : MkQ C sp E vs H Q := fun x dx nx ndx ne => by
  have w1 := w.new (o := .own x) ndx
  have nx1 : (upd H dx (.own x)) x = none := by rw [upd_ne (Ne.symm ne)]; exact nx
  exact k x dx _ nx (w.free nx) (w.free ndx) (w1.new nx1)
end TZ

namespace TZ
open PySem L2
local macro_rules | `(tactic| walk_at "cd") => `(tactic| first | omega | exact ⟨by decide, by decide, by decide⟩ | exact Or.inl ⟨by decide, by decide⟩ | exact Or.inr ⟨by decide, by decide⟩ | exact Or.inl ⟨by omega, by omega⟩ | exact Or.inr ⟨by omega, by omega⟩ | exact ⟨by omega, by omega⟩)
local macro_rules | `(tactic| walk_at "mem") => `(tactic| ((repeat (first | exact List.Mem.head _ | apply List.Mem.tail)); done))
local macro_rules | `(tactic| walk_at "set") => `(tactic| (dsimp only [List.set]; try exact rfl))
local macro_rules | `(tactic| walk_at "seq") => `(tactic| exact sqL (Wd.at (by assumption) (by walk_at "mem")))
local macro_rules | `(tactic| walk_at "own") => `(tactic| first | exact Or.inl (by walk_at "mem") | exact Or.inr (by assumption))
local macro_rules | `(tactic| walk_at "hi") => `(tactic| first | exact (rfl : (_ : List (Addr × HO))[0]? = _) | exact (rfl : (_ : List (Addr × HO))[1]? = _) | exact (rfl : (_ : List (Addr × HO))[2]? = _) | exact (rfl : (_ : List (Addr × HO))[3]? = _) | exact (rfl : (_ : List (Addr × HO))[4]? = _) | exact (rfl : (_ : List (Addr × HO))[5]? = _) | exact (rfl : (_ : List (Addr × HO))[6]? = _) | exact (rfl : (_ : List (Addr × HO))[7]? = _) | exact (rfl : (_ : List (Addr × HO))[8]? = _) | exact (rfl : (_ : List (Addr × HO))[9]? = _))
local macro_rules | `(tactic| walk_at "sz") => `(tactic| first | (show _ ≤ sizeLine; decide) | (refine sz_ok ?_; first | omega | (simp only [List.length_cons, List.length_nil, List.length_map, PySem.Str.length_append] <;> omega) | (simp; done)) | (refine TZ.sz_lt ?_; first | omega | (simp only [List.length_cons, List.length_nil, List.length_map, List.length_append, PySem.Str.length_append] <;> omega) | (simp; done)))
local macro_rules | `(tactic| walk_at "rd1") => `(tactic| first
  | with_reducible refine' r_seq ?_
  | ((with_reducible refine' r_var ?hv ?_); (case hv => exact rfl))
  | with_reducible refine' r_c ?_
  | with_reducible refine' r_op ?_
  | with_reducible refine' r_I0 ?_
  | ((with_reducible refine' r_set ?hv ?_); (case hv => walk_at "set"))
  | with_reducible refine' r_asg ?_
  | with_reducible refine' r_cons ?_
  | with_reducible refine' r_nil ?_
  | with_reducible refine' r_cb ?_
  | with_reducible refine' r_call0 ?_
  | with_reducible refine' r_test ?_
  | with_reducible refine' r_B ?_
  | with_reducible refine' r_bl ?_
  | with_reducible refine' r_ifS ?_
  | with_reducible refine' r_and ?_
  | with_reducible refine' r_or ?_
  | with_reducible refine' r_not ?_
  | with_reducible refine' r_andV ?_
  | with_reducible refine' r_orV ?_
  | with_reducible refine' r_notV ?_
  | with_reducible refine' r_ifE ?_
  | with_reducible refine' r_eqI ?_
  | with_reducible refine' r_neI ?_
  | with_reducible refine' r_eqS ?_
  | with_reducible refine' r_neS ?_
  | ((with_reducible refine' r_eq ?hv ?_); (case hv => exact rfl))
  | ((with_reducible refine' r_ne ?hv ?_); (case hv => exact rfl))
  | with_reducible refine' r_ret ?_
  | with_reducible refine' r_retN ?_
  | with_reducible refine' r_drop ?_
  | with_reducible refine' r_next ?_
  | with_reducible refine' r_cont ?_
  | with_reducible refine' r_brk ?_
  | with_reducible refine' r_asgS ?_
  | with_reducible refine' r_asgT ?_
  | with_reducible refine' r_gN ?_
  | with_reducible refine' r_gc ?_
  | with_reducible refine' r_gn ?_
  | with_reducible refine' r_tup ?_
  | with_reducible refine' r_lst ?_
  | with_reducible refine' r_sl ?_
  | with_reducible refine' r_nopart ?_
  | with_reducible refine' r_part ?_
  | with_reducible refine' r_partI ?_
  | with_reducible refine' r_un ?_
  | with_reducible refine' r_U ?_
  | with_reducible refine' r_int1 ?_
  | with_reducible refine' r_l1 ?_
  | with_reducible refine' r_l2 ?_
  | with_reducible refine' r_sign ?_
  | with_reducible refine' r_refl ?_
  | with_reducible refine' r_bm ?_
  | with_reducible refine' r_bm0 ?_
  | ((with_reducible refine' r_I ?hv ?_); (case hv => walk_at "cd"))
  | ((with_reducible refine' r_ixL ?hs ?he ?_); (case hs => walk_at "seq"); (case he => first | assumption | exact rfl))
  | ((with_reducible refine' r_ixT ?hs ?he ?_); (case hs => exact Wd.at (by assumption) (by walk_at "mem")); (case he => exact rfl))
  | ((with_reducible refine' r_lenL ?hs ?_); (case hs => walk_at "seq"))
  | ((with_reducible refine' r_lenT ?hs ?_); (case hs => exact Wd.at (by assumption) (by walk_at "mem")))
  | ((with_reducible refine' r_tyL ?hs ?_); (case hs => walk_at "seq"))
  | ((with_reducible refine' r_setW ?w ?hi ?own ?e ?hy ?hL ?_); (case w => assumption); (case hi => walk_at "hi"); (case own => walk_at "own"); (case e => exact rfl); (case hy => walk_at "set"); (case hL => walk_at "set"); intro _ _)
  | ((with_reducible refine' r_mkT ?w ?hs ?_); (case w => assumption); (case hs => walk_at "sz"); intro _ _ _ _ _)
  | ((with_reducible refine' r_mkL ?w ?hs ?_); (case w => assumption); (case hs => walk_at "sz"); intro _ _ _ _ _)
  | with_reducible refine' r_for ?_
  | with_reducible refine' r_iList ?_
  | with_reducible refine' r_iRng1 ?_
  | with_reducible refine' r_iStr ?_
  | with_reducible refine' r_iEs ?_
  | with_reducible refine' r_iEl ?_
  | with_reducible refine' r_StQ ?_
  | with_reducible refine' r_EsQ ?_
  | ((with_reducible refine' r_RgQ ?hv ?_); (case hv => first | omega | assumption))
  | ((with_reducible refine' r_LsQ ?hs ?_); (case hs => walk_at "seq"))
  | ((with_reducible refine' r_ElQ ?hs ?_); (case hs => walk_at "seq"))
  | with_reducible refine' r_lc ?_
  | with_reducible refine' r_dget ?_
  | with_reducible refine' r_din ?_
  | with_reducible refine' r_dnin ?_
  | with_reducible refine' r_dput ?_
  | with_reducible refine' r_dsetd ?_
  | with_reducible refine' r_fld ?_
  | with_reducible refine' r_fset ?_
  | ((with_reducible refine' r_dinS ?hs ?_); (case hs => exact Or.inl (Wd.at (by assumption) (by walk_at "mem"))))
  | ((with_reducible refine' r_dgetS ?hs ?e ?_); (case hs => exact Or.inl (Wd.at (by assumption) (by walk_at "mem"))); (case e => assumption))
  | ((with_reducible refine' r_ds0 ?hs ?_); (case hs => exact Wd.at (by assumption) (by walk_at "mem")))
  | ((with_reducible refine' r_dputS ?w ?hi ?own ?hl ?hL ?_); (case w => assumption); (case hi => walk_at "hi"); (case own => walk_at "own"); (case hl => first | assumption | walk_at "sz"); (case hL => walk_at "set"); intro _ _)
  | ((with_reducible refine' r_dnew ?w ?_); (case w => assumption); intro _ _ _ _ _)
  | ((with_reducible refine' r_lenD ?hs ?_); (case hs => exact Wd.at (by assumption) (by walk_at "mem")))
  | ((with_reducible refine' r_fldW ?hs ?c ?nf ?l ?_); (case hs => exact Wd.at (by assumption) (by walk_at "mem")); (case c => assumption); (case nf => assumption); (case l => exact rfl))
  | ((with_reducible refine' r_lenS ?hs ?_); (case hs => walk_at "sz"))
  | ((with_reducible refine' r_slS ?hs ?_); (case hs => walk_at "sz"))
  | ((with_reducible refine' r_cat ?hs ?_); (case hs => walk_at "sz"))
  | ((with_reducible refine' r_ixS ?hs ?e ?_); (case hs => walk_at "sz"); (case e => assumption))
  | ((with_reducible refine' r_appW ?w ?hi ?own ?e ?hL ?_); (case w => assumption); (case hi => walk_at "hi"); (case own => walk_at "own"); (case e => walk_at "sz"); (case hL => walk_at "set"); intro _ _)
  | with_reducible refine' r_ss ?_
  | with_reducible refine' ifNT ?_
  | with_reducible refine' ifNF ?_
  | with_reducible refine' ifT ?_
  | with_reducible refine' ifF ?_)
local macro_rules | `(tactic| walk_at "rd") => `(tactic| repeat walk_at "rd1")
local macro_rules | `(tactic| walk_at "br") => `(tactic| first | with_reducible refine' if2 (fun _ => ?_) (fun _ => ?_) | with_reducible refine' ifn2 (fun _ => ?_) (fun _ => ?_) | with_reducible refine' ifb (fun _ => ?_) (fun _ => ?_) | with_reducible refine' ifnb (fun _ => ?_) (fun _ => ?_))
local macro_rules | `(tactic| walk_at "rdb") => `(tactic| repeat' (first | walk_at "rd1" | walk_at "br"))
local macro_rules | `(tactic| walk_at "bro") => `(tactic| first | with_reducible refine if2 (fun h => (by exfalso; omega)) (fun _ => ?_) | with_reducible refine if2 (fun _ => ?_) (fun h => (by exfalso; omega)) | with_reducible refine ifn2 (fun h => (by exfalso; omega)) (fun _ => ?_) | with_reducible refine ifn2 (fun _ => ?_) (fun h => (by exfalso; omega)) | with_reducible refine if2 (fun _ => ?_) (fun h => absurd rfl h) | with_reducible refine ifn2 (fun h => absurd rfl h) (fun _ => ?_))
local macro_rules | `(tactic| walk_at "rdo") => `(tactic| repeat (first | walk_at "rd1" | walk_at "bro"))

section
variable {P : Program} {w : World} {K : PySem.W.Frag} {mg : Str → Option Value} {base : Heap} {ad : Ad}
abbrev s_law_next : Stmt := topS 18
theorem sc_law_next : FnScope ["state", "many", "cells", "cell", "told", "turn", "mixed"] ["state", "many"] (defScope s_law_next) := ⟨rfl, rfl, rfl, by decide +kernel, rfl, by decide +kernel, by decide +kernel⟩
/-- the law's state: the cells, where it reads, what is left of a great cell, how often it was drawn from -/
def spNext : Sp := fun vs H Q _ => ∃ (st cl : Addr) (cs : List Int) (a b c n : Int), vs = [.ref st, .int n] ∧ H st = some (.lst [.ref cl, .int a, .int b, .int c]) ∧ H cl = some (.lst (cs.map V.int)) ∧ cs ≠ [] ∧ 0 < n ∧ n < 1073741824 ∧
  ∀ (r a' b' c' : Int) (H' : Hp), 0 ≤ r → r < n → Frm [st] H H' → H' st = some (.lst [.ref cl, .int a', .int b', .int c']) → Q (.int r) H'
theorem atI_mod {cs : List Int} {a : Int} (h : cs ≠ []) : ∃ z, atI (cs.map V.int) (a % ((cs.map V.int).length : Nat)) = some (.int z) := by
  have hl : 0 < (cs.map V.int).length := by rw [List.length_map]; exact List.length_pos_iff.mpr h
  have h0 : 0 ≤ a % ((cs.map V.int).length : Nat) := Int.emod_nonneg _ (by omega)
  have h1 : a % ((cs.map V.int).length : Nat) < ((cs.map V.int).length : Nat) := Int.emod_lt_of_pos _ (by omega)
  obtain ⟨j, hj⟩ : ∃ j : Nat, a % ((cs.map V.int).length : Nat) = j := ⟨_, (Int.toNat_of_nonneg h0).symm⟩
  rw [hj] at h1 ⊢
  have h2 : j < cs.length := by rw [List.length_map] at h1; omega
  exact ⟨cs[j], atI_nat (by rw [List.getElem?_map, List.getElem?_eq_getElem h2]; rfl)⟩
theorem w_law_next (T : Txt K mg ad) {f : Addr} {fd : FuncData} (F : Fun K "_law_next" "_law_next" s_law_next f fd) : FnOk P w K mg base L2.CX0 1 f fd ["state", "many"] spNext := by
  refine F.ok sc_law_next (fun vs H Q E h => ?_) (fun cdv A outer s H vs Q E hr h => ?_)
  · obtain ⟨st, cl, cs, a, b, c, n, rfl, _⟩ := h
    rfl
  · obtain ⟨st, cl, cs, a, b, c, n, rfl, h1, h2, hne, hn0, hn1, k⟩ := h
    have hu := hu_of hr
    have w0 : Wd H [st] H [(st, .lst [.ref cl, .int a, .int b, .int c]), (cl, .lst (cs.map V.int))] := .here _ (by
      have d : st ≠ cl := fun z => by
        rw [z, h2] at h1
        cases cs with
        | nil => exact hne rfl
        | cons y r => cases h1
      simpa using d) (by
      intro p hp
      rcases List.mem_cons.mp hp with rfl | hp
      · exact h1
      · rcases List.mem_cons.mp hp with rfl | hp
        · exact h2
        · cases hp)
    refine ⟨_, (pss_cons (ps_set (i := 2) sc_law_next.nd rfl (Or.inl rfl) (pe_ix ix_list (pv 0) pe_int (fun _ _ => rfl)))
    (pss_cons (ps_set (i := 3) sc_law_next.nd rfl (Or.inl rfl) (pe_ix ix_list (pv 2) (pe_op op_mod (pe_callTy call_int1 (by rfl) T.n_int (by decide +kernel) (pa_cons (pe_ix ix_list (pv 0) pe_int (fun _ _ => rfl)) pa_nil)) (pe_callB call_len_seq (by rfl) T.n_len (by decide +kernel) (pa_cons (pv 2) pa_nil))) (fun _ _ => rfl)))
    (pss_cons (ps_if (PW.pt (pw_and (pt_cmpR op_ge (pv 3) (pe_op op_pow pe_int pe_int) (nomark _)) (pw_and1 (pt_cmpR op_lt (pe_ix ix_list (pv 0) pe_int (fun _ _ => rfl)) (pe_callB call_len_seq (by rfl) T.n_len (by decide +kernel) (pa_cons (pv 2) pa_nil)) (nomark _))))) (pss_cons (ps_if (pt_cmpR op_eq (pe_ix ix_list (pv 0) pe_int (fun _ _ => rfl)) pe_int (nomark _)) (pss_one (ps_asg (pv 3) (pg_sub (pv 0) pe_int set_list))) pss_nil)
      (pss_cons (ps_set (i := 4) sc_law_next.nd rfl (Or.inl rfl) (pe_op op_mod (pe_callTy call_int1 (by rfl) T.n_int (by decide +kernel) (pa_cons (pe_ix ix_list (pv 0) pe_int (fun _ _ => rfl)) pa_nil)) (pv 1)))
      (pss_cons (ps_asg (pe_op op_fdiv (pe_callTy call_int1 (by rfl) T.n_int (by decide +kernel) (pa_cons (pe_ix ix_list (pv 0) pe_int (fun _ _ => rfl)) pa_nil)) (pv 1)) (pg_sub (pv 0) pe_int set_list))
      (pss_cons (ps_asg (pe_op op_add (pe_ix ix_list (pv 0) pe_int (fun _ _ => rfl)) pe_int) (pg_sub (pv 0) pe_int set_list))
      (pss_cons (ps_if (PW.pt (pw_or (pt_cmpR op_eq (pe_ix ix_list (pv 0) pe_int (fun _ _ => rfl)) pe_int (nomark _)) (pw_or1 (pt_cmpR op_ge (pe_ix ix_list (pv 0) pe_int (fun _ _ => rfl)) pe_int (nomark _))))) (pss_cons (ps_asg (pe_op op_add (pe_ix ix_list (pv 0) pe_int (fun _ _ => rfl)) pe_int) (pg_sub (pv 0) pe_int set_list))
        (pss_one (ps_asg pe_int (pg_sub (pv 0) pe_int set_list)))) pss_nil)
      (pss_one (ps_ret (pv 4)))))))) pss_nil)
    (pss_cons (ps_set (i := 5) sc_law_next.nd rfl (Or.inl rfl) (pe_op op_add (pe_ix ix_list (pv 0) pe_int (fun _ _ => rfl)) (pe_op op_mul pe_int (pe_ix ix_list (pv 0) pe_int (fun _ _ => rfl)))))
    (pss_cons (ps_set (i := 6) sc_law_next.nd rfl (Or.inl rfl) (pe_op op_mul (pe_op op_add (pe_op op_mod (pe_callTy call_int1 (by rfl) T.n_int (by decide +kernel) (pa_cons (pv 3) pa_nil)) pe_int) pe_int) (pe_op op_add pe_int (pe_op op_mul pe_int (pv 5)))))
    (pss_cons (ps_set (i := 6) sc_law_next.nd rfl (Or.inl rfl) (pe_op op_mod (pe_callTy call_int1 (by rfl) T.n_int (by decide +kernel) (pa_cons (pv 6) pa_nil)) pe_int))
    (pss_cons (ps_set (i := 6) sc_law_next.nd rfl (Or.inl rfl) (pe_op op_mod (pe_callTy call_int1 (by rfl) T.n_int (by decide +kernel) (pa_cons (pe_op op_add (pe_op op_add (pe_op op_mul (pv 6) (pv 6)) (pe_op op_mul pe_int (pv 5))) pe_int) pa_nil)) pe_int))
    (pss_cons (ps_asg (pe_op op_add (pe_ix ix_list (pv 0) pe_int (fun _ _ => rfl)) pe_int) (pg_sub (pv 0) pe_int set_list))
    (pss_cons (ps_if (pt_cmpR op_ge (pe_ix ix_list (pv 0) pe_int (fun _ _ => rfl)) pe_int (nomark _)) (pss_cons (ps_asg (pe_op op_add (pe_ix ix_list (pv 0) pe_int (fun _ _ => rfl)) pe_int) (pg_sub (pv 0) pe_int set_list))
      (pss_one (ps_asg pe_int (pg_sub (pv 0) pe_int set_list)))) pss_nil)
    (pss_one (ps_ret (pe_op op_mod (pe_callTy call_int1 (by rfl) T.n_int (by decide +kernel) (pa_cons (pe_op op_fdiv (pv 6) pe_int) pa_nil)) (pv 1))))))))))))), ?_⟩
    try simp only [cxK, cxKX]
    show (_ : TS) (_ : Ends) [some _, some _, none, none, none, none, none] _
    walk_at "rd"
    have hl : 0 < (cs.map V.int).length := by rw [List.length_map]; exact List.length_pos_iff.mpr hne
    obtain ⟨z, hz⟩ := atI_mod (a := a) hne
    walk_at "rd"
    walk_at "rdb"
    all_goals exact k _ _ _ _ _ (Int.emod_nonneg _ (by omega)) (Int.emod_lt_of_pos _ (by omega)) (Wd.fr (by assumption)) (Wd.at (by assumption) (by walk_at "mem"))
end
end TZ

namespace TZ
open PySem L2
local macro_rules | `(tactic| walk_at "cd") => `(tactic| first | omega | exact ⟨by decide, by decide, by decide⟩ | exact Or.inl ⟨by decide, by decide⟩ | exact Or.inr ⟨by decide, by decide⟩ | exact Or.inl ⟨by omega, by omega⟩ | exact Or.inr ⟨by omega, by omega⟩ | exact ⟨by omega, by omega⟩)
local macro_rules | `(tactic| walk_at "mem") => `(tactic| ((repeat (first | exact List.Mem.head _ | apply List.Mem.tail)); done))
local macro_rules | `(tactic| walk_at "set") => `(tactic| (dsimp only [List.set]; try exact rfl))
local macro_rules | `(tactic| walk_at "seq") => `(tactic| exact sqL (Wd.at (by assumption) (by walk_at "mem")))
local macro_rules | `(tactic| walk_at "own") => `(tactic| first | exact Or.inl (by walk_at "mem") | exact Or.inr (by assumption))
local macro_rules | `(tactic| walk_at "hi") => `(tactic| first | exact (rfl : (_ : List (Addr × HO))[0]? = _) | exact (rfl : (_ : List (Addr × HO))[1]? = _) | exact (rfl : (_ : List (Addr × HO))[2]? = _) | exact (rfl : (_ : List (Addr × HO))[3]? = _) | exact (rfl : (_ : List (Addr × HO))[4]? = _) | exact (rfl : (_ : List (Addr × HO))[5]? = _) | exact (rfl : (_ : List (Addr × HO))[6]? = _) | exact (rfl : (_ : List (Addr × HO))[7]? = _) | exact (rfl : (_ : List (Addr × HO))[8]? = _) | exact (rfl : (_ : List (Addr × HO))[9]? = _))
local macro_rules | `(tactic| walk_at "sz") => `(tactic| first | (show _ ≤ sizeLine; decide) | (refine sz_ok ?_; first | omega | (simp only [List.length_cons, List.length_nil, List.length_map, PySem.Str.length_append] <;> omega) | (simp; done)) | (refine TZ.sz_lt ?_; first | omega | (simp only [List.length_cons, List.length_nil, List.length_map, List.length_append, PySem.Str.length_append] <;> omega) | (simp; done)))
local macro_rules | `(tactic| walk_at "rd1") => `(tactic| first
  | with_reducible refine' r_seq ?_
  | ((with_reducible refine' r_var ?hv ?_); (case hv => exact rfl))
  | with_reducible refine' r_c ?_
  | with_reducible refine' r_op ?_
  | with_reducible refine' r_I0 ?_
  | ((with_reducible refine' r_set ?hv ?_); (case hv => walk_at "set"))
  | with_reducible refine' r_asg ?_
  | with_reducible refine' r_cons ?_
  | with_reducible refine' r_nil ?_
  | with_reducible refine' r_cb ?_
  | with_reducible refine' r_call0 ?_
  | with_reducible refine' r_test ?_
  | with_reducible refine' r_B ?_
  | with_reducible refine' r_bl ?_
  | with_reducible refine' r_ifS ?_
  | with_reducible refine' r_and ?_
  | with_reducible refine' r_or ?_
  | with_reducible refine' r_not ?_
  | with_reducible refine' r_andV ?_
  | with_reducible refine' r_orV ?_
  | with_reducible refine' r_notV ?_
  | with_reducible refine' r_ifE ?_
  | with_reducible refine' r_eqI ?_
  | with_reducible refine' r_neI ?_
  | with_reducible refine' r_eqS ?_
  | with_reducible refine' r_neS ?_
  | ((with_reducible refine' r_eq ?hv ?_); (case hv => exact rfl))
  | ((with_reducible refine' r_ne ?hv ?_); (case hv => exact rfl))
  | with_reducible refine' r_ret ?_
  | with_reducible refine' r_retN ?_
  | with_reducible refine' r_drop ?_
  | with_reducible refine' r_next ?_
  | with_reducible refine' r_cont ?_
  | with_reducible refine' r_brk ?_
  | with_reducible refine' r_asgS ?_
  | with_reducible refine' r_asgT ?_
  | with_reducible refine' r_gN ?_
  | with_reducible refine' r_gc ?_
  | with_reducible refine' r_gn ?_
  | with_reducible refine' r_tup ?_
  | with_reducible refine' r_lst ?_
  | with_reducible refine' r_sl ?_
  | with_reducible refine' r_nopart ?_
  | with_reducible refine' r_part ?_
  | with_reducible refine' r_partI ?_
  | with_reducible refine' r_un ?_
  | with_reducible refine' r_U ?_
  | with_reducible refine' r_int1 ?_
  | with_reducible refine' r_l1 ?_
  | with_reducible refine' r_l2 ?_
  | with_reducible refine' r_sign ?_
  | with_reducible refine' r_refl ?_
  | with_reducible refine' r_bm ?_
  | with_reducible refine' r_bm0 ?_
  | ((with_reducible refine' r_I ?hv ?_); (case hv => walk_at "cd"))
  | ((with_reducible refine' r_ixL ?hs ?he ?_); (case hs => walk_at "seq"); (case he => first | assumption | exact rfl))
  | ((with_reducible refine' r_ixT ?hs ?he ?_); (case hs => exact Wd.at (by assumption) (by walk_at "mem")); (case he => exact rfl))
  | ((with_reducible refine' r_lenL ?hs ?_); (case hs => walk_at "seq"))
  | ((with_reducible refine' r_lenT ?hs ?_); (case hs => exact Wd.at (by assumption) (by walk_at "mem")))
  | ((with_reducible refine' r_tyL ?hs ?_); (case hs => walk_at "seq"))
  | ((with_reducible refine' r_setW ?w ?hi ?own ?e ?hy ?hL ?_); (case w => assumption); (case hi => walk_at "hi"); (case own => walk_at "own"); (case e => exact rfl); (case hy => walk_at "set"); (case hL => walk_at "set"); intro _ _)
  | ((with_reducible refine' r_mkT ?w ?hs ?_); (case w => assumption); (case hs => walk_at "sz"); intro _ _ _ _ _)
  | ((with_reducible refine' r_mkL ?w ?hs ?_); (case w => assumption); (case hs => walk_at "sz"); intro _ _ _ _ _)
  | with_reducible refine' r_for ?_
  | with_reducible refine' r_iList ?_
  | with_reducible refine' r_iRng1 ?_
  | with_reducible refine' r_iStr ?_
  | with_reducible refine' r_iEs ?_
  | with_reducible refine' r_iEl ?_
  | with_reducible refine' r_StQ ?_
  | with_reducible refine' r_EsQ ?_
  | ((with_reducible refine' r_RgQ ?hv ?_); (case hv => first | omega | assumption))
  | ((with_reducible refine' r_LsQ ?hs ?_); (case hs => walk_at "seq"))
  | ((with_reducible refine' r_ElQ ?hs ?_); (case hs => walk_at "seq"))
  | with_reducible refine' r_lc ?_
  | with_reducible refine' r_dget ?_
  | with_reducible refine' r_din ?_
  | with_reducible refine' r_dnin ?_
  | with_reducible refine' r_dput ?_
  | with_reducible refine' r_dsetd ?_
  | with_reducible refine' r_fld ?_
  | with_reducible refine' r_fset ?_
  | ((with_reducible refine' r_dinS ?hs ?_); (case hs => exact Or.inl (Wd.at (by assumption) (by walk_at "mem"))))
  | ((with_reducible refine' r_dgetS ?hs ?e ?_); (case hs => exact Or.inl (Wd.at (by assumption) (by walk_at "mem"))); (case e => assumption))
  | ((with_reducible refine' r_ds0 ?hs ?_); (case hs => exact Wd.at (by assumption) (by walk_at "mem")))
  | ((with_reducible refine' r_dputS ?w ?hi ?own ?hl ?hL ?_); (case w => assumption); (case hi => walk_at "hi"); (case own => walk_at "own"); (case hl => first | assumption | walk_at "sz"); (case hL => walk_at "set"); intro _ _)
  | ((with_reducible refine' r_dnew ?w ?_); (case w => assumption); intro _ _ _ _ _)
  | ((with_reducible refine' r_lenD ?hs ?_); (case hs => exact Wd.at (by assumption) (by walk_at "mem")))
  | ((with_reducible refine' r_fldW ?hs ?c ?nf ?l ?_); (case hs => exact Wd.at (by assumption) (by walk_at "mem")); (case c => assumption); (case nf => assumption); (case l => exact rfl))
  | ((with_reducible refine' r_lenS ?hs ?_); (case hs => walk_at "sz"))
  | ((with_reducible refine' r_slS ?hs ?_); (case hs => walk_at "sz"))
  | ((with_reducible refine' r_cat ?hs ?_); (case hs => walk_at "sz"))
  | ((with_reducible refine' r_ixS ?hs ?e ?_); (case hs => walk_at "sz"); (case e => assumption))
  | ((with_reducible refine' r_appW ?w ?hi ?own ?e ?hL ?_); (case w => assumption); (case hi => walk_at "hi"); (case own => walk_at "own"); (case e => walk_at "sz"); (case hL => walk_at "set"); intro _ _)
  | with_reducible refine' r_ss ?_
  | with_reducible refine' ifNT ?_
  | with_reducible refine' ifNF ?_
  | with_reducible refine' ifT ?_
  | with_reducible refine' ifF ?_)
local macro_rules | `(tactic| walk_at "rd") => `(tactic| repeat walk_at "rd1")
local macro_rules | `(tactic| walk_at "br") => `(tactic| first | with_reducible refine' if2 (fun _ => ?_) (fun _ => ?_) | with_reducible refine' ifn2 (fun _ => ?_) (fun _ => ?_) | with_reducible refine' ifb (fun _ => ?_) (fun _ => ?_) | with_reducible refine' ifnb (fun _ => ?_) (fun _ => ?_))
local macro_rules | `(tactic| walk_at "rdb") => `(tactic| repeat' (first | walk_at "rd1" | walk_at "br"))
local macro_rules | `(tactic| walk_at "bro") => `(tactic| first | with_reducible refine if2 (fun h => (by exfalso; omega)) (fun _ => ?_) | with_reducible refine if2 (fun _ => ?_) (fun h => (by exfalso; omega)) | with_reducible refine ifn2 (fun h => (by exfalso; omega)) (fun _ => ?_) | with_reducible refine ifn2 (fun _ => ?_) (fun h => (by exfalso; omega)) | with_reducible refine if2 (fun _ => ?_) (fun h => absurd rfl h) | with_reducible refine ifn2 (fun h => absurd rfl h) (fun _ => ?_))
local macro_rules | `(tactic| walk_at "rdo") => `(tactic| repeat (first | walk_at "rd1" | walk_at "bro"))

section
variable {P : Program} {w : World} {K : PySem.W.Frag} {mg : Str → Option Value} {base : Heap} {ad : Ad}
/-! ### _law_start -/
abbrev s_law_start : Stmt := topS 17
theorem sc_law_start : FnScope ["script", "cells", "cell"] ["script"] (defScope s_law_start) := ⟨rfl, rfl, rfl, by decide +kernel, rfl, by decide +kernel, by decide +kernel⟩
def spStart (K : PySem.W.Frag) : Sp := fun vs H Q _ => ∃ (a : Addr) (ns : List Int), vs = [.ref a] ∧ SqL K H a (ns.map V.int) ∧ ns.length ≤ 63 ∧
  ∀ (st cl : Addr) (cs : List Int) (H' : Hp), H st = none → H cl = none → st ≠ cl → Frm [] H H' → H' st = some (.lst [.ref cl, .int 0, .int 0, .int 0]) → H' cl = some (.lst (cs.map V.int)) → cs ≠ [] → Q (.ref st) H'
theorem Frm.seq {ms : List Addr} {H H' : Hp} {a : Addr} {xs : List V} (f : Frm ms H H') (m : a ∉ ms) (h : SqL K H a xs) : SqL K H' a xs := by
  rcases h with (h | ⟨o, h⟩) | h
  · exact .inl (.inl (f.keep _ _ h m))
  · exact .inl (.inr ⟨o, f.keep _ _ h m⟩)
  · exact .inr h
theorem w_law_start (T : Txt K mg ad) {f : Addr} {fd : FuncData} (F : Fun K "_law_start" "_law_start" s_law_start f fd) : FnOk P w K mg base L2.CX0 1 f fd ["script"] (spStart K) := by
  refine F.ok sc_law_start (fun vs H Q E h => ?_) (fun cdv A outer s H vs Q E hr h => ?_)
  · obtain ⟨a, ns, rfl, _⟩ := h
    rfl
  · obtain ⟨a, ns, rfl, hs, hn, k⟩ := h
    have w0 : Wd H [] H [] := .here _ List.nodup_nil (fun p hp => by cases hp)
    refine ⟨_, (pss_cons (ps_setLc (i := 1) (own := [("cell", 2)]) (g := gName 2) (tt := tYes) rfl sc_law_start.nd rfl rfl (sw_true rfl rfl rfl (by decide +kernel)) (pi_list (pv 0)) (blkOk_by (own := [("cell", 2)]) (N := ["script", "cells", "cell"]) (sc := defScope s_law_start) (by decide +kernel)) (fun _ _ _ _ _ => pg_name (i := 2) sc_law_start.nd rfl (Or.inl rfl)) (fun _ _ _ _ _ => pts_nil) (fun _ _ _ _ _ => (pe_callB call_abs (by rfl) T.n_abs (by decide +kernel) (pa_cons (pv 2) pa_nil))))
    (pss_cons (ps_if (pt_cmpR op_eq (pe_callB call_len_seq (by rfl) T.n_len (by decide +kernel) (pa_cons (pv 1) pa_nil)) pe_int (nomark _)) (pss_one (ps_set (i := 1) sc_law_start.nd rfl (Or.inl rfl) (pe_lst (pa_cons pe_int pa_nil)))) pss_nil)
    (pss_one (ps_ret (pe_lst (pa_cons (pv 1) (pa_cons pe_int (pa_cons pe_int (pa_cons pe_int pa_nil))))))))), ?_⟩
    try simp only [cxK, cxKX]
    show (_ : TS) (_ : Ends) [some _, none, none] _
    walk_at "rd"
    refine r_LsQ hs ?_
    intro D nD
    refine f_lcN (xs := ns.map V.int) (H0 := H) (ms := []) (L := []) w0 nD (by rw [List.length_map]; omega) (fun i => .int (if (ns.getD i 0) < 0 then -(ns.getD i 0) else ns.getD i 0)) (fun H1 L1 w1 => w1.fr.seq (by simp) hs) (fun x => rfl) (fun i x H1 L1 hi w1 => ?_) (fun H1 w1 => ?_) (fun σ H Q Q' h q => ?_)
    · have e : x = .int (ns.getD i 0) := by
        rw [List.getElem?_map] at hi
        cases e : ns[i]? with
        | none => rw [e] at hi; cases hi
        | some z =>
          rw [e] at hi
          cases hi
          rw [List.getD_eq_getElem?_getD, e]
          rfl
      subst e
      walk_at "rd"
      exact ⟨rfl, rfl⟩
    · have e1 : (List.range (ns.map V.int).length).map (fun i => V.int (if (ns.getD i 0) < 0 then -(ns.getD i 0) else ns.getD i 0)) = ((List.range (ns.map V.int).length).map (fun i => if (ns.getD i 0) < 0 then -(ns.getD i 0) else ns.getD i 0)).map V.int := by
        rw [List.map_map]
        rfl
      rw [e1] at w1
      generalize (List.range (ns.map V.int).length).map (fun i => if (ns.getD i 0) < 0 then -(ns.getD i 0) else ns.getD i 0) = cs at w1
      walk_at "rd"
      refine if2 (fun hz => ?_) (fun hz => ?_)
      · walk_at "rd"
        rename_i p1 H2 n1 f1 w2 p2 H3 n2 f2 w3
        exact k p2 p1 [0] H3 f2 f1 (fun z => by subst z; exact absurd (w2.at (List.Mem.head _)) (by rw [n2]; simp)) w3.fr (w3.at (List.Mem.head _)) (w3.at (by walk_at "mem")) (by simp)
      · walk_at "rd"
        rename_i p2 H3 n2 f2 w3
        exact k p2 D cs H3 f2 nD (fun z => by subst z; exact absurd (w1.at (List.Mem.head _)) (by rw [n2]; simp)) w3.fr (w3.at (List.Mem.head _)) (w3.at (by walk_at "mem")) (fun z => hz (by subst z; rfl))
    · obtain ⟨v, e, i, ei, q⟩ := q
      cases ei
      exact ⟨_, e, i, rfl, h _ _ q⟩
end
end TZ

namespace TZ
open PySem L2
local macro_rules | `(tactic| walk_at "cd") => `(tactic| first | omega | exact ⟨by decide, by decide, by decide⟩ | exact Or.inl ⟨by decide, by decide⟩ | exact Or.inr ⟨by decide, by decide⟩ | exact Or.inl ⟨by omega, by omega⟩ | exact Or.inr ⟨by omega, by omega⟩ | exact ⟨by omega, by omega⟩)
local macro_rules | `(tactic| walk_at "mem") => `(tactic| ((repeat (first | exact List.Mem.head _ | apply List.Mem.tail)); done))
local macro_rules | `(tactic| walk_at "set") => `(tactic| (dsimp only [List.set]; try exact rfl))
local macro_rules | `(tactic| walk_at "seq") => `(tactic| exact sqL (Wd.at (by assumption) (by walk_at "mem")))
local macro_rules | `(tactic| walk_at "own") => `(tactic| first | exact Or.inl (by walk_at "mem") | exact Or.inr (by assumption))
local macro_rules | `(tactic| walk_at "hi") => `(tactic| first | exact (rfl : (_ : List (Addr × HO))[0]? = _) | exact (rfl : (_ : List (Addr × HO))[1]? = _) | exact (rfl : (_ : List (Addr × HO))[2]? = _) | exact (rfl : (_ : List (Addr × HO))[3]? = _) | exact (rfl : (_ : List (Addr × HO))[4]? = _) | exact (rfl : (_ : List (Addr × HO))[5]? = _) | exact (rfl : (_ : List (Addr × HO))[6]? = _) | exact (rfl : (_ : List (Addr × HO))[7]? = _) | exact (rfl : (_ : List (Addr × HO))[8]? = _) | exact (rfl : (_ : List (Addr × HO))[9]? = _))
local macro_rules | `(tactic| walk_at "sz") => `(tactic| first | (show _ ≤ sizeLine; decide) | (refine sz_ok ?_; first | omega | (simp only [List.length_cons, List.length_nil, List.length_map, PySem.Str.length_append] <;> omega) | (simp; done)) | (refine TZ.sz_lt ?_; first | omega | (simp only [List.length_cons, List.length_nil, List.length_map, List.length_append, PySem.Str.length_append] <;> omega) | (simp; done)))
local macro_rules | `(tactic| walk_at "rd1") => `(tactic| first
  | with_reducible refine' r_seq ?_
  | ((with_reducible refine' r_var ?hv ?_); (case hv => exact rfl))
  | with_reducible refine' r_c ?_
  | with_reducible refine' r_op ?_
  | with_reducible refine' r_I0 ?_
  | ((with_reducible refine' r_set ?hv ?_); (case hv => walk_at "set"))
  | with_reducible refine' r_asg ?_
  | with_reducible refine' r_cons ?_
  | with_reducible refine' r_nil ?_
  | with_reducible refine' r_cb ?_
  | with_reducible refine' r_call0 ?_
  | with_reducible refine' r_test ?_
  | with_reducible refine' r_B ?_
  | with_reducible refine' r_bl ?_
  | with_reducible refine' r_ifS ?_
  | with_reducible refine' r_and ?_
  | with_reducible refine' r_or ?_
  | with_reducible refine' r_not ?_
  | with_reducible refine' r_andV ?_
  | with_reducible refine' r_orV ?_
  | with_reducible refine' r_notV ?_
  | with_reducible refine' r_ifE ?_
  | with_reducible refine' r_eqI ?_
  | with_reducible refine' r_neI ?_
  | with_reducible refine' r_eqS ?_
  | with_reducible refine' r_neS ?_
  | ((with_reducible refine' r_eq ?hv ?_); (case hv => exact rfl))
  | ((with_reducible refine' r_ne ?hv ?_); (case hv => exact rfl))
  | with_reducible refine' r_ret ?_
  | with_reducible refine' r_retN ?_
  | with_reducible refine' r_drop ?_
  | with_reducible refine' r_next ?_
  | with_reducible refine' r_cont ?_
  | with_reducible refine' r_brk ?_
  | with_reducible refine' r_asgS ?_
  | with_reducible refine' r_asgT ?_
  | with_reducible refine' r_gN ?_
  | with_reducible refine' r_gc ?_
  | with_reducible refine' r_gn ?_
  | with_reducible refine' r_tup ?_
  | with_reducible refine' r_lst ?_
  | with_reducible refine' r_sl ?_
  | with_reducible refine' r_nopart ?_
  | with_reducible refine' r_part ?_
  | with_reducible refine' r_partI ?_
  | with_reducible refine' r_un ?_
  | with_reducible refine' r_U ?_
  | with_reducible refine' r_int1 ?_
  | with_reducible refine' r_l1 ?_
  | with_reducible refine' r_l2 ?_
  | with_reducible refine' r_sign ?_
  | with_reducible refine' r_refl ?_
  | with_reducible refine' r_bm ?_
  | with_reducible refine' r_bm0 ?_
  | ((with_reducible refine' r_I ?hv ?_); (case hv => walk_at "cd"))
  | ((with_reducible refine' r_ixL ?hs ?he ?_); (case hs => walk_at "seq"); (case he => first | assumption | exact rfl))
  | ((with_reducible refine' r_ixT ?hs ?he ?_); (case hs => exact Wd.at (by assumption) (by walk_at "mem")); (case he => exact rfl))
  | ((with_reducible refine' r_lenL ?hs ?_); (case hs => walk_at "seq"))
  | ((with_reducible refine' r_lenT ?hs ?_); (case hs => exact Wd.at (by assumption) (by walk_at "mem")))
  | ((with_reducible refine' r_tyL ?hs ?_); (case hs => walk_at "seq"))
  | ((with_reducible refine' r_setW ?w ?hi ?own ?e ?hy ?hL ?_); (case w => assumption); (case hi => walk_at "hi"); (case own => walk_at "own"); (case e => exact rfl); (case hy => walk_at "set"); (case hL => walk_at "set"); intro _ _)
  | ((with_reducible refine' r_mkT ?w ?hs ?_); (case w => assumption); (case hs => walk_at "sz"); intro _ _ _ _ _)
  | ((with_reducible refine' r_mkL ?w ?hs ?_); (case w => assumption); (case hs => walk_at "sz"); intro _ _ _ _ _)
  | with_reducible refine' r_for ?_
  | with_reducible refine' r_iList ?_
  | with_reducible refine' r_iRng1 ?_
  | with_reducible refine' r_iStr ?_
  | with_reducible refine' r_iEs ?_
  | with_reducible refine' r_iEl ?_
  | with_reducible refine' r_StQ ?_
  | with_reducible refine' r_EsQ ?_
  | ((with_reducible refine' r_RgQ ?hv ?_); (case hv => first | omega | assumption))
  | ((with_reducible refine' r_LsQ ?hs ?_); (case hs => walk_at "seq"))
  | ((with_reducible refine' r_ElQ ?hs ?_); (case hs => walk_at "seq"))
  | with_reducible refine' r_lc ?_
  | with_reducible refine' r_dget ?_
  | with_reducible refine' r_din ?_
  | with_reducible refine' r_dnin ?_
  | with_reducible refine' r_dput ?_
  | with_reducible refine' r_dsetd ?_
  | with_reducible refine' r_fld ?_
  | with_reducible refine' r_fset ?_
  | ((with_reducible refine' r_dinS ?hs ?_); (case hs => exact Or.inl (Wd.at (by assumption) (by walk_at "mem"))))
  | ((with_reducible refine' r_dgetS ?hs ?e ?_); (case hs => exact Or.inl (Wd.at (by assumption) (by walk_at "mem"))); (case e => assumption))
  | ((with_reducible refine' r_ds0 ?hs ?_); (case hs => exact Wd.at (by assumption) (by walk_at "mem")))
  | ((with_reducible refine' r_dputS ?w ?hi ?own ?hl ?hL ?_); (case w => assumption); (case hi => walk_at "hi"); (case own => walk_at "own"); (case hl => first | assumption | walk_at "sz"); (case hL => walk_at "set"); intro _ _)
  | ((with_reducible refine' r_dnew ?w ?_); (case w => assumption); intro _ _ _ _ _)
  | ((with_reducible refine' r_lenD ?hs ?_); (case hs => exact Wd.at (by assumption) (by walk_at "mem")))
  | ((with_reducible refine' r_fldW ?hs ?c ?nf ?l ?_); (case hs => exact Wd.at (by assumption) (by walk_at "mem")); (case c => assumption); (case nf => assumption); (case l => exact rfl))
  | ((with_reducible refine' r_lenS ?hs ?_); (case hs => walk_at "sz"))
  | ((with_reducible refine' r_slS ?hs ?_); (case hs => walk_at "sz"))
  | ((with_reducible refine' r_cat ?hs ?_); (case hs => walk_at "sz"))
  | ((with_reducible refine' r_ixS ?hs ?e ?_); (case hs => walk_at "sz"); (case e => assumption))
  | ((with_reducible refine' r_appW ?w ?hi ?own ?e ?hL ?_); (case w => assumption); (case hi => walk_at "hi"); (case own => walk_at "own"); (case e => walk_at "sz"); (case hL => walk_at "set"); intro _ _)
  | with_reducible refine' r_ss ?_
  | with_reducible refine' ifNT ?_
  | with_reducible refine' ifNF ?_
  | with_reducible refine' ifT ?_
  | with_reducible refine' ifF ?_)
local macro_rules | `(tactic| walk_at "rd") => `(tactic| repeat walk_at "rd1")
local macro_rules | `(tactic| walk_at "br") => `(tactic| first | with_reducible refine' if2 (fun _ => ?_) (fun _ => ?_) | with_reducible refine' ifn2 (fun _ => ?_) (fun _ => ?_) | with_reducible refine' ifb (fun _ => ?_) (fun _ => ?_) | with_reducible refine' ifnb (fun _ => ?_) (fun _ => ?_))
local macro_rules | `(tactic| walk_at "rdb") => `(tactic| repeat' (first | walk_at "rd1" | walk_at "br"))
local macro_rules | `(tactic| walk_at "bro") => `(tactic| first | with_reducible refine if2 (fun h => (by exfalso; omega)) (fun _ => ?_) | with_reducible refine if2 (fun _ => ?_) (fun h => (by exfalso; omega)) | with_reducible refine ifn2 (fun h => (by exfalso; omega)) (fun _ => ?_) | with_reducible refine ifn2 (fun _ => ?_) (fun h => (by exfalso; omega)) | with_reducible refine if2 (fun _ => ?_) (fun h => absurd rfl h) | with_reducible refine ifn2 (fun h => absurd rfl h) (fun _ => ?_))
local macro_rules | `(tactic| walk_at "rdo") => `(tactic| repeat (first | walk_at "rd1" | walk_at "bro"))

section
variable {P : Program} {w : World} {K : PySem.W.Frag} {mg : Str → Option Value} {base : Heap} {ad : Ad}
/-! ### the errors' __init__ -/
abbrev s_bw : Stmt := inClass (topS 3) 0
abbrev s_bt : Stmt := inClass (topS 4) 0
theorem scF_bw : ScF ["self", "word", "place"] ["self", "word", "place"] (defScope s_bw) := ⟨rfl, rfl, rfl, by decide +kernel, rfl, by decide +kernel, by decide +kernel, by decide +kernel⟩
theorem scF_bt : ScF ["self", "line"] ["self", "line"] (defScope s_bt) := ⟨rfl, rfl, rfl, by decide +kernel, rfl, by decide +kernel, by decide +kernel, by decide +kernel⟩
theorem w_bw {f cc : Addr} {dV kV doc pm cdv ct oc : Value} {an od : Option Addr} {osl : Array (Option Value)} (T : SupC P K mg ad.cw cc cdv) (n1 : PySem.W.findIn K (.ref ad.cw) "word" = some none) (n2 : PySem.W.findIn K (.ref ad.cw) "place" = some none)
    (lk : K.lookup f = some ⟨oc, od, .func (PySem.W.ksFn "__init__" "BadWord.__init__" (defArgs s_bw) (defBody s_bw) (defScope s_bw) dV kV doc pm an cdv ct cc), osl⟩) (hcd : PySem.W.codeIn K cdv "BadWord.__init__" = true) :
    FnOk P w K mg base L2.CX0 1 f (PySem.W.ksFn "__init__" "BadWord.__init__" (defArgs s_bw) (defBody s_bw) (defScope s_bw) dV kV doc pm an cdv ct cc) ["self", "word", "place"] (spErr2 ad.cw "word" "place") := by
  refine sup_fn (k := 0) (N := ["self", "word", "place"]) lk (fun _ => rfl) hcd scF_bw T rfl rfl rfl rfl (fun vs H Q E h => ?_) (fun vs H Q E h => ?_) (fun A outer s H vs Q E hr h => ?_)
  · obtain ⟨a, x, y, rfl, _⟩ := h
    rfl
  · obtain ⟨a, x, y, rfl, h1, _⟩ := h
    exact ⟨a, [x, y], rfl, h1⟩
  · obtain ⟨a, x, y, rfl, h1, k⟩ := h
    refine ⟨_, (pss_cons (ps_ost (pv 0) (pv 1)) (pss_one (ps_ost (pv 0) (pv 2)))), ?_⟩
    refine r_seq (r_ost0 rfl rfl T.oex n1 h1 fun d nd da => ?_)
    refine r_ost1 rfl rfl T.oex n2 (d := d) (fs := [("word", x)]) upd_same (by rw [upd_ne da, upd_same]) (by show 1 ≤ 900; decide) ?_
    exact k d nd da
theorem w_bt {f cc : Addr} {dV kV doc pm cdv ct oc : Value} {an od : Option Addr} {osl : Array (Option Value)} (T : SupC P K mg ad.ct cc cdv) (n1 : PySem.W.findIn K (.ref ad.ct) "line" = some none)
    (lk : K.lookup f = some ⟨oc, od, .func (PySem.W.ksFn "__init__" "BadText.__init__" (defArgs s_bt) (defBody s_bt) (defScope s_bt) dV kV doc pm an cdv ct cc), osl⟩) (hcd : PySem.W.codeIn K cdv "BadText.__init__" = true) :
    FnOk P w K mg base L2.CX0 1 f (PySem.W.ksFn "__init__" "BadText.__init__" (defArgs s_bt) (defBody s_bt) (defScope s_bt) dV kV doc pm an cdv ct cc) ["self", "line"] (spErr1 ad.ct "line") := by
  refine sup_fn (k := 0) (N := ["self", "line"]) lk (fun _ => rfl) hcd scF_bt T rfl rfl rfl rfl (fun vs H Q E h => ?_) (fun vs H Q E h => ?_) (fun A outer s H vs Q E hr h => ?_)
  · obtain ⟨a, x, rfl, _⟩ := h
    rfl
  · obtain ⟨a, x, rfl, h1, _⟩ := h
    exact ⟨a, [x], rfl, h1⟩
  · obtain ⟨a, x, rfl, h1, k⟩ := h
    refine ⟨_, (pss_one (ps_ost (pv 0) (pv 1))), ?_⟩
    exact r_ost0 rfl rfl T.oex n1 h1 fun d nd da => k d nd da
/-! ### check_letters: the letters are good -/
abbrev s_check_letters : Stmt := topS 8
theorem sc_check_letters : FnScope ["letters", "before", "letter"] ["letters"] (defScope s_check_letters) := ⟨rfl, rfl, rfl, by decide +kernel, rfl, by decide +kernel, by decide +kernel⟩
structure GoodL (z : Str) : Prop where
  one : 1 ≤ z.length
  four : z.length ≤ 4
  small : ∀ (i c : Nat), z.cps[i]? = some c → 97 ≤ c ∧ c ≤ 122
  up : ∀ (i c c' : Nat), z.cps[i]? = some c → z.cps[i + 1]? = some c' → c < c'
theorem small_mem : ∀ c : Nat, 97 ≤ c → c ≤ 122 → c ∈ (Str.ofString "abcdefghijklmnopqrstuvwxyz").cps.toList := by
  have h : ∀ c : Nat, c < 123 → 97 ≤ c → c ∈ (Str.ofString "abcdefghijklmnopqrstuvwxyz").cps.toList := by decide +kernel
  exact fun c h1 h2 => h c (by omega) h1
def spLetters : Sp := fun vs H Q _ => ∃ z, vs = [.str z] ∧ GoodL z ∧ Q .non H
theorem w_check_letters (T : Txt K mg ad) {f : Addr} {fd : FuncData} (F : Fun K "check_letters" "check_letters" s_check_letters f fd) : FnOk P w K mg base L2.CX0 1 f fd ["letters"] spLetters := by
  refine F.ok sc_check_letters (fun vs H Q E h => ?_) (fun cdv A outer s H vs Q E hr h => ?_)
  · obtain ⟨z, rfl, _⟩ := h
    rfl
  · obtain ⟨z, rfl, G, k⟩ := h
    have z4 := G.four
    have z1 := G.one
    refine ⟨_, (pss_cons (ps_if (PW.pt (pw_or (pt_cmpR op_lt (pe_callB call_len_str (by rfl) T.n_len (by decide +kernel) (pa_cons (pv 0) pa_nil)) pe_int (nomark _)) (pw_or1 (pt_cmpR op_gt (pe_callB call_len_str (by rfl) T.n_len (by decide +kernel) (pa_cons (pv 0) pa_nil)) (pe_gi rfl T.g_MOST_KINDS_OF_LETTERS) (nomark _))))) (pss_one (ps_never)) pss_nil)
    (pss_cons (ps_set (i := 1) sc_check_letters.nd rfl (Or.inl rfl) pe_str)
    (pss_one (ps_for PassesOwn.never rfl (pi_str (pv 0)) (pg_name (i := 2) sc_check_letters.nd rfl (Or.inl rfl))
      (pss_cons (ps_if (PW.pt (pw_or (pt_cmpR op_notIn_sign (pv 2) (pe_gc rfl T.g_SMALL) rfl) (pw_or1 (pt_cmpR op_le_str (pv 2) (pv 1) (nomark _))))) (pss_one (ps_never)) pss_nil)
      (pss_one (ps_set (i := 1) sc_check_letters.nd rfl (Or.inl rfl) (pv 2)))))))), ?_⟩
    try simp only [cxK, cxKX]
    show (_ : TS) (_ : Ends) [some _, none, none] _
    walk_at "rd"
    refine if2 (fun hz => absurd hz (by omega)) (fun _ => ?_)
    walk_at "rd"
    refine if2 (fun hz => absurd hz (by omega)) (fun _ => ?_)
    walk_at "rd"
    refine f_str (fun i σ H' => H' = H ∧ ∃ (b : Str) (v : Option V), σ = [some (.str z), some (.str b), v] ∧ (i = 0 → b = "") ∧ ∀ (j c : Nat), i = j + 1 → z.cps[j]? = some c → b = ⟨#[c]⟩) ⟨rfl, _, none, rfl, fun _ => rfl, fun j c e => by omega⟩ (fun i c σ H' hc p => ?_) (fun σ H' p => ?_)
    · obtain ⟨rfl, b, v, rfl, b0, b1⟩ := p
      have sm := G.small i c hc
      walk_at "rd"
      refine ifn2 (fun hn => absurd (small_mem c sm.1 sm.2) hn) (fun _ => ?_)
      walk_at "rd"
      refine ifn2 (fun hn => absurd ?_ hn) (fun _ => ?_)
      · cases i with
        | zero =>
          rw [b0 rfl]
          exact List.Lex.nil
        | succ j =>
          have hj : j < z.cps.size := by
            have := (Array.getElem?_eq_some_iff.mp hc).1
            omega
          rw [b1 j z.cps[j] rfl (by simp [hj])]
          have u := G.up j z.cps[j] c (by simp [hj]) hc
          exact List.Lex.rel u
      · walk_at "rd"
        refine ⟨rfl, _, _, rfl, fun e => by omega, fun j c' e hc' => ?_⟩
        have e' : i = j := by omega
        subst e'
        rw [hc] at hc'
        cases hc'
        rfl
    · obtain ⟨rfl, _⟩ := p
      exact k
end
end TZ

namespace TZ
open PySem L2
local macro_rules | `(tactic| walk_at "cd") => `(tactic| first | omega | exact ⟨by decide, by decide, by decide⟩ | exact Or.inl ⟨by decide, by decide⟩ | exact Or.inr ⟨by decide, by decide⟩ | exact Or.inl ⟨by omega, by omega⟩ | exact Or.inr ⟨by omega, by omega⟩ | exact ⟨by omega, by omega⟩)
local macro_rules | `(tactic| walk_at "mem") => `(tactic| ((repeat (first | exact List.Mem.head _ | apply List.Mem.tail)); done))
local macro_rules | `(tactic| walk_at "set") => `(tactic| (dsimp only [List.set]; try exact rfl))
local macro_rules | `(tactic| walk_at "seq") => `(tactic| exact sqL (Wd.at (by assumption) (by walk_at "mem")))
local macro_rules | `(tactic| walk_at "own") => `(tactic| first | exact Or.inl (by walk_at "mem") | exact Or.inr (by assumption))
local macro_rules | `(tactic| walk_at "hi") => `(tactic| first | exact (rfl : (_ : List (Addr × HO))[0]? = _) | exact (rfl : (_ : List (Addr × HO))[1]? = _) | exact (rfl : (_ : List (Addr × HO))[2]? = _) | exact (rfl : (_ : List (Addr × HO))[3]? = _) | exact (rfl : (_ : List (Addr × HO))[4]? = _) | exact (rfl : (_ : List (Addr × HO))[5]? = _) | exact (rfl : (_ : List (Addr × HO))[6]? = _) | exact (rfl : (_ : List (Addr × HO))[7]? = _) | exact (rfl : (_ : List (Addr × HO))[8]? = _) | exact (rfl : (_ : List (Addr × HO))[9]? = _))
local macro_rules | `(tactic| walk_at "sz") => `(tactic| first | (show _ ≤ sizeLine; decide) | (refine sz_ok ?_; first | omega | (simp only [List.length_cons, List.length_nil, List.length_map, PySem.Str.length_append] <;> omega) | (simp; done)) | (refine TZ.sz_lt ?_; first | omega | (simp only [List.length_cons, List.length_nil, List.length_map, List.length_append, PySem.Str.length_append] <;> omega) | (simp; done)))
local macro_rules | `(tactic| walk_at "rd1") => `(tactic| first
  | with_reducible refine' r_seq ?_
  | ((with_reducible refine' r_var ?hv ?_); (case hv => exact rfl))
  | with_reducible refine' r_c ?_
  | with_reducible refine' r_op ?_
  | with_reducible refine' r_I0 ?_
  | ((with_reducible refine' r_set ?hv ?_); (case hv => walk_at "set"))
  | with_reducible refine' r_asg ?_
  | with_reducible refine' r_cons ?_
  | with_reducible refine' r_nil ?_
  | with_reducible refine' r_cb ?_
  | with_reducible refine' r_call0 ?_
  | with_reducible refine' r_test ?_
  | with_reducible refine' r_B ?_
  | with_reducible refine' r_bl ?_
  | with_reducible refine' r_ifS ?_
  | with_reducible refine' r_and ?_
  | with_reducible refine' r_or ?_
  | with_reducible refine' r_not ?_
  | with_reducible refine' r_andV ?_
  | with_reducible refine' r_orV ?_
  | with_reducible refine' r_notV ?_
  | with_reducible refine' r_ifE ?_
  | with_reducible refine' r_eqI ?_
  | with_reducible refine' r_neI ?_
  | with_reducible refine' r_eqS ?_
  | with_reducible refine' r_neS ?_
  | ((with_reducible refine' r_eq ?hv ?_); (case hv => exact rfl))
  | ((with_reducible refine' r_ne ?hv ?_); (case hv => exact rfl))
  | with_reducible refine' r_ret ?_
  | with_reducible refine' r_retN ?_
  | with_reducible refine' r_drop ?_
  | with_reducible refine' r_next ?_
  | with_reducible refine' r_cont ?_
  | with_reducible refine' r_brk ?_
  | with_reducible refine' r_asgS ?_
  | with_reducible refine' r_asgT ?_
  | with_reducible refine' r_gN ?_
  | with_reducible refine' r_gc ?_
  | with_reducible refine' r_gn ?_
  | with_reducible refine' r_tup ?_
  | with_reducible refine' r_lst ?_
  | with_reducible refine' r_sl ?_
  | with_reducible refine' r_nopart ?_
  | with_reducible refine' r_part ?_
  | with_reducible refine' r_partI ?_
  | with_reducible refine' r_un ?_
  | with_reducible refine' r_U ?_
  | with_reducible refine' r_int1 ?_
  | with_reducible refine' r_l1 ?_
  | with_reducible refine' r_l2 ?_
  | with_reducible refine' r_sign ?_
  | with_reducible refine' r_refl ?_
  | with_reducible refine' r_bm ?_
  | with_reducible refine' r_bm0 ?_
  | ((with_reducible refine' r_I ?hv ?_); (case hv => walk_at "cd"))
  | ((with_reducible refine' r_ixL ?hs ?he ?_); (case hs => walk_at "seq"); (case he => first | assumption | exact rfl))
  | ((with_reducible refine' r_ixT ?hs ?he ?_); (case hs => exact Wd.at (by assumption) (by walk_at "mem")); (case he => exact rfl))
  | ((with_reducible refine' r_lenL ?hs ?_); (case hs => walk_at "seq"))
  | ((with_reducible refine' r_lenT ?hs ?_); (case hs => exact Wd.at (by assumption) (by walk_at "mem")))
  | ((with_reducible refine' r_tyL ?hs ?_); (case hs => walk_at "seq"))
  | ((with_reducible refine' r_setW ?w ?hi ?own ?e ?hy ?hL ?_); (case w => assumption); (case hi => walk_at "hi"); (case own => walk_at "own"); (case e => exact rfl); (case hy => walk_at "set"); (case hL => walk_at "set"); intro _ _)
  | ((with_reducible refine' r_mkT ?w ?hs ?_); (case w => assumption); (case hs => walk_at "sz"); intro _ _ _ _ _)
  | ((with_reducible refine' r_mkL ?w ?hs ?_); (case w => assumption); (case hs => walk_at "sz"); intro _ _ _ _ _)
  | with_reducible refine' r_for ?_
  | with_reducible refine' r_iList ?_
  | with_reducible refine' r_iRng1 ?_
  | with_reducible refine' r_iStr ?_
  | with_reducible refine' r_iEs ?_
  | with_reducible refine' r_iEl ?_
  | with_reducible refine' r_StQ ?_
  | with_reducible refine' r_EsQ ?_
  | ((with_reducible refine' r_RgQ ?hv ?_); (case hv => first | omega | assumption))
  | ((with_reducible refine' r_LsQ ?hs ?_); (case hs => walk_at "seq"))
  | ((with_reducible refine' r_ElQ ?hs ?_); (case hs => walk_at "seq"))
  | with_reducible refine' r_lc ?_
  | with_reducible refine' r_dget ?_
  | with_reducible refine' r_din ?_
  | with_reducible refine' r_dnin ?_
  | with_reducible refine' r_dput ?_
  | with_reducible refine' r_dsetd ?_
  | with_reducible refine' r_fld ?_
  | with_reducible refine' r_fset ?_
  | ((with_reducible refine' r_dinS ?hs ?_); (case hs => exact Or.inl (Wd.at (by assumption) (by walk_at "mem"))))
  | ((with_reducible refine' r_dgetS ?hs ?e ?_); (case hs => exact Or.inl (Wd.at (by assumption) (by walk_at "mem"))); (case e => assumption))
  | ((with_reducible refine' r_ds0 ?hs ?_); (case hs => exact Wd.at (by assumption) (by walk_at "mem")))
  | ((with_reducible refine' r_dputS ?w ?hi ?own ?hl ?hL ?_); (case w => assumption); (case hi => walk_at "hi"); (case own => walk_at "own"); (case hl => first | assumption | walk_at "sz"); (case hL => walk_at "set"); intro _ _)
  | ((with_reducible refine' r_dnew ?w ?_); (case w => assumption); intro _ _ _ _ _)
  | ((with_reducible refine' r_lenD ?hs ?_); (case hs => exact Wd.at (by assumption) (by walk_at "mem")))
  | ((with_reducible refine' r_fldW ?hs ?c ?nf ?l ?_); (case hs => exact Wd.at (by assumption) (by walk_at "mem")); (case c => assumption); (case nf => assumption); (case l => exact rfl))
  | ((with_reducible refine' r_lenS ?hs ?_); (case hs => walk_at "sz"))
  | ((with_reducible refine' r_slS ?hs ?_); (case hs => walk_at "sz"))
  | ((with_reducible refine' r_cat ?hs ?_); (case hs => walk_at "sz"))
  | ((with_reducible refine' r_ixS ?hs ?e ?_); (case hs => walk_at "sz"); (case e => assumption))
  | ((with_reducible refine' r_appW ?w ?hi ?own ?e ?hL ?_); (case w => assumption); (case hi => walk_at "hi"); (case own => walk_at "own"); (case e => walk_at "sz"); (case hL => walk_at "set"); intro _ _)
  | with_reducible refine' r_ss ?_
  | with_reducible refine' ifNT ?_
  | with_reducible refine' ifNF ?_
  | with_reducible refine' ifT ?_
  | with_reducible refine' ifF ?_)
local macro_rules | `(tactic| walk_at "rd") => `(tactic| repeat walk_at "rd1")
local macro_rules | `(tactic| walk_at "br") => `(tactic| first | with_reducible refine' if2 (fun _ => ?_) (fun _ => ?_) | with_reducible refine' ifn2 (fun _ => ?_) (fun _ => ?_) | with_reducible refine' ifb (fun _ => ?_) (fun _ => ?_) | with_reducible refine' ifnb (fun _ => ?_) (fun _ => ?_))
local macro_rules | `(tactic| walk_at "rdb") => `(tactic| repeat' (first | walk_at "rd1" | walk_at "br"))
local macro_rules | `(tactic| walk_at "bro") => `(tactic| first | with_reducible refine if2 (fun h => (by exfalso; omega)) (fun _ => ?_) | with_reducible refine if2 (fun _ => ?_) (fun h => (by exfalso; omega)) | with_reducible refine ifn2 (fun h => (by exfalso; omega)) (fun _ => ?_) | with_reducible refine ifn2 (fun _ => ?_) (fun h => (by exfalso; omega)) | with_reducible refine if2 (fun _ => ?_) (fun h => absurd rfl h) | with_reducible refine ifn2 (fun h => absurd rfl h) (fun _ => ?_))
local macro_rules | `(tactic| walk_at "rdo") => `(tactic| repeat (first | walk_at "rd1" | walk_at "bro"))

section
variable {P : Program} {w : World} {K : PySem.W.Frag} {mg : Str → Option Value} {base : Heap} {ad : Ad}
/-! ### check_word -/
abbrev s_check_word : Stmt := topS 9
theorem sc_check_word : FnScope ["letters", "word", "place", "letter"] ["letters", "word"] (defScope s_check_word) := ⟨rfl, rfl, rfl, by decide +kernel, rfl, by decide +kernel, by decide +kernel⟩
/-- the first character that is no letter stands at i -/
def BadAt (ls w : Str) (i : Nat) : Prop := (∃ c : Nat, w.cps[i]? = some c ∧ c ∉ ls.cps.toList) ∧ ∀ j c : Nat, j < i → w.cps[j]? = some c → c ∈ ls.cps.toList
def Over (ls w : Str) : Prop := ∀ j c : Nat, w.cps[j]? = some c → c ∈ ls.cps.toList
def errW (w : Str) (i : Nat) : HO := .xd [("place", .int (i : Nat)), ("word", .str w)]
def spWord (cw : Addr) : Sp := fun vs H Q E => ∃ ls w : Str, vs = [.str ls, .str w] ∧ (Over ls w → ∀ H', Frm [] H H' → Q .non H') ∧
  ∀ i : Nat, BadAt ls w i → ∀ (d : Addr) (H' : Hp), Frm [] H H' → H d = none → H' d = some (errW w i) → E (.ref cw) (some d) H'
theorem w_check_word (T : Txt K mg ad) (c_BadWord : Raiser P w K mg base "BadWord" ad.cw (spErr2 ad.cw "word" "place")) {f : Addr} {fd : FuncData} (F : Fun K "check_word" "check_word" s_check_word f fd) : FnOk P w K mg base (L2.CX P w) 3 f fd ["letters", "word"] (spWord ad.cw) := by
  refine F.okX sc_check_word (fun vs H Q E h => ?_) (fun cdv A outer s H vs Q E hr h => ?_)
  · obtain ⟨ls, w, rfl, _⟩ := h
    rfl
  · obtain ⟨ls, w, rfl, k1, k2⟩ := h
    refine ⟨_, (pss_one (ps_for (passes_of rfl) rfl (pi_enumS (by rfl) T.n_enumerate (pa_cons (pv 1) pa_nil)) (pg_tup rfl (pgs_cons (pg_name (i := 2) sc_check_word.nd rfl (Or.inl rfl)) (pgs_cons (pg_name (i := 3) sc_check_word.nd rfl (Or.inl rfl)) pgs_nil)))
      (pss_one (ps_if (pt_cmpR op_notIn_sign (pv 3) (pv 0) rfl) (pss_one (ps_raise rfl (takes_of rfl rfl rfl rfl) (pmk_err c_BadWord hr (by decide) rfl (pa_cons (pv 1) (pa_cons (pv 2) pa_nil))))) pss_nil)))), ?_⟩
    try simp only [cxK, cxKX]
    show (_ : TS) (_ : Ends) [some _, some _, none, none] _
    walk_at "rd"
    refine f_enumS (fun i σ H' => Frm [] H H' ∧ (∀ j c : Nat, j < i → w.cps[j]? = some c → c ∈ ls.cps.toList) ∧ ∃ x y : Option V, σ = [some (.str ls), some (.str w), x, y]) ⟨Frm.refl _ _, fun j c h => absurd h (Nat.not_lt_zero _), none, none, rfl⟩ (fun i c t σ H' hc p nT => ?_) (fun σ H' p => ?_)
    · obtain ⟨fr, ok, x, y, rfl⟩ := p
      have fr1 : Frm [] H (upd H' t (.tup [.int (i : Nat), .str ⟨#[c]⟩])) := fr.trans (Frm.new nT)
      refine r_gT (n := 2) (xs := [.int (i : Nat), .str ⟨#[c]⟩]) upd_same rfl ?_
      walk_at "rd"
      refine ifn2 (fun hn => ?_) (fun hm => ?_)
      · refine mk_err2 ?_ mono_2
        walk_at "rd"
        refine ⟨_, _, rfl, fun d nd => ?_⟩
        have nH : H d = none := fr1.free nd
        exact k2 i ⟨⟨c, hc, hn⟩, ok⟩ d _ (fr1.trans (Frm.new nd)) nH upd_same
      · walk_at "rd"
        refine ⟨fr1, fun j c' hj hc' => ?_, _, _, rfl⟩
        by_cases e : j = i
        · subst e
          rw [hc] at hc'
          cases hc'
          exact hm
        · exact ok j c' (by omega) hc'
    · obtain ⟨fr, ok, x, y, rfl⟩ := p
      refine k1 (fun j c hc => ok j c ?_ hc) H' fr
      exact (Array.getElem?_eq_some_iff.mp hc).1
/-! ### the view of a place -/
def vw (z : Str) (a n : Int) : Str := cutS z (some (if a - n + 1 > 0 then a - n + 1 else 0)) (some (a + 1))
def spView : Sp := fun vs H Q _ => ∃ (z : Str) (a n : Int), vs = [.str z, .int a, .int n] ∧ z.length ≤ 1000 ∧ Q (.str (vw z a n)) H
abbrev s_view_at : Stmt := topS 11
theorem sc_view_at : FnScope ["word", "at", "size"] ["word", "at", "size"] (defScope s_view_at) := ⟨rfl, rfl, rfl, by decide +kernel, rfl, by decide +kernel, by decide +kernel⟩
theorem w_view_at (T : Txt K mg ad) {f : Addr} {fd : FuncData} (F : Fun K "view_at" "view_at" s_view_at f fd) : FnOk P w K mg base L2.CX0 1 f fd ["word", "at", "size"] spView := by
  refine F.ok sc_view_at (fun vs H Q E h => ?_) (fun cdv A outer s H vs Q E hr h => ?_)
  · obtain ⟨z, a, n, rfl, _⟩ := h
    rfl
  · obtain ⟨z, a, n, rfl, hz, k⟩ := h
    refine ⟨_, (pss_one (ps_ret (pe_slice sl_str (pv 0) (po_some (pe_callB (call_max2 rfl) (by rfl) T.n_max (by decide +kernel) (pa_cons pe_int (pa_cons (pe_op op_add (pe_op op_sub (pv 1) (pv 2)) pe_int) pa_nil)))) (po_some (pe_op op_add (pv 1) pe_int))))), ?_⟩
    try simp only [cxK, cxKX]
    show (_ : TS) (_ : Ends) [some _, some _, some _] _
    walk_at "rd"
    exact k
abbrev s_law_view : Stmt := topS 21
theorem sc_law_view : FnScope ["word", "at", "size"] ["word", "at", "size"] (defScope s_law_view) := ⟨rfl, rfl, rfl, by decide +kernel, rfl, by decide +kernel, by decide +kernel⟩
theorem w_law_view (T : Txt K mg ad) {f : Addr} {fd : FuncData} (F : Fun K "_law_view" "_law_view" s_law_view f fd) : FnOk P w K mg base L2.CX0 1 f fd ["word", "at", "size"] spView := by
  refine F.ok sc_law_view (fun vs H Q E h => ?_) (fun cdv A outer s H vs Q E hr h => ?_)
  · obtain ⟨z, a, n, rfl, _⟩ := h
    rfl
  · obtain ⟨z, a, n, rfl, hz, k⟩ := h
    refine ⟨_, (pss_one (ps_ret (pe_slice sl_str (pv 0) (po_some (pe_callB (call_max2 rfl) (by rfl) T.n_max (by decide +kernel) (pa_cons pe_int (pa_cons (pe_op op_add (pe_op op_sub (pv 1) (pv 2)) pe_int) pa_nil)))) (po_some (pe_op op_add (pv 1) pe_int))))), ?_⟩
    try simp only [cxK, cxKX]
    show (_ : TS) (_ : Ends) [some _, some _, some _] _
    walk_at "rd"
    exact k
end
end TZ

namespace TZ
open PySem L2
/-! ### drawing letters -/
def StAt (H : Hp) (st cl : Addr) (cs : List Int) : Prop := (∃ a b c : Int, H st = some (.lst [.ref cl, .int a, .int b, .int c])) ∧ H cl = some (.lst (cs.map V.int)) ∧ cs ≠ []
theorem r_nextS {H0 H : Hp} {ms : List Addr} {L : List (Addr × HO)} {L' : Int → Int → Int → List (Addr × HO)} {i : Nat} {st cl : Addr} {cs : List Int} {a b c n : Int} {Q : VK} {E : XK} (w : Wd H0 ms H L) (hi : L[i]? = some (st, .lst [.ref cl, .int a, .int b, .int c])) (hc : (cl, HO.lst (cs.map V.int)) ∈ L) (own : st ∈ ms ∨ H0 st = none) (ne : cs ≠ [])
    (n0 : 0 < n) (n1 : n < 1073741824) (hL : ∀ a' b' c' : Int, L.set i (st, .lst [.ref cl, .int a', .int b', .int c']) = L' a' b' c') (k : ∀ (r a' b' c' : Int) (H1 : Hp), 0 ≤ r → r < n → Wd H0 ms H1 (L' a' b' c') → Q (.int r) H1) : spNext [.ref st, .int n] H Q E :=
  ⟨st, cl, cs, a, b, c, n, rfl, w.at' _ (List.mem_of_getElem? hi), w.at hc, ne, n0, n1, fun r a' b' c' H1 h0 h1 fr hs => k r a' b' c' H1 h0 h1 (by rw [← hL]; exact w.call1 hi own fr hs (fun _ z => by cases z))⟩
theorem atI_str {z : Str} {r : Int} (h0 : 0 ≤ r) (h1 : r < z.length) : ∃ c, atI z.cps.toList r = some c ∧ z.cps[r.toNat]? = some c ∧ c ∈ z.cps.toList := by
  obtain ⟨j, rfl⟩ : ∃ j : Nat, r = j := ⟨r.toNat, (Int.toNat_of_nonneg h0).symm⟩
  have hj : j < z.cps.size := by
    have : (j : Int) < (z.cps.size : Nat) := h1
    omega
  refine ⟨z.cps[j], atI_nat (by simp [hj]), by simp [hj], by simp⟩
theorem two_entries {H : Hp} {st cl : Addr} {cs : List Int} {a b c : Int} (ms : List Addr) (h1 : H st = some (.lst [.ref cl, .int a, .int b, .int c])) (h2 : H cl = some (.lst (cs.map V.int))) (ne : cs ≠ []) :
    Wd H ms H [(st, .lst [.ref cl, .int a, .int b, .int c]), (cl, .lst (cs.map V.int))] := .here _ (by
      have d : st ≠ cl := fun z => by
        rw [z, h2] at h1
        cases cs with
        | nil => exact ne rfl
        | cons y r => cases h1
      simpa using d) (by
      intro p hp
      rcases List.mem_cons.mp hp with rfl | hp
      · exact h1
      · rcases List.mem_cons.mp hp with rfl | hp
        · exact h2
        · cases hp)
theorem over_nil (ls : Str) : Over ls "" := fun j c h => by
  rw [show (("" : Str).cps) = #[] from rfl] at h
  simp at h
theorem over_app {ls z : Str} {c : Nat} (h : Over ls z) (m : c ∈ ls.cps.toList) : Over ls (z ++ ⟨#[c]⟩) := fun j d e => by
  rw [PySem.Str.cps_append, Array.getElem?_append] at e
  split at e
  · exact h j d e
  · have : d = c := by
      cases hj : j - z.cps.size with
      | zero => rw [hj] at e; simpa using e.symm
      | succ n => rw [hj] at e; simp at e
    rw [this]
    exact m
theorem len_app1 {z : Str} {c : Nat} : (z ++ (⟨#[c]⟩ : Str)).length = z.length + 1 := by
  rw [PySem.Str.length_append]
  rfl
local macro_rules | `(tactic| walk_at "cd") => `(tactic| first | omega | exact ⟨by decide, by decide, by decide⟩ | exact Or.inl ⟨by decide, by decide⟩ | exact Or.inr ⟨by decide, by decide⟩ | exact Or.inl ⟨by omega, by omega⟩ | exact Or.inr ⟨by omega, by omega⟩ | exact ⟨by omega, by omega⟩)
local macro_rules | `(tactic| walk_at "mem") => `(tactic| ((repeat (first | exact List.Mem.head _ | apply List.Mem.tail)); done))
local macro_rules | `(tactic| walk_at "set") => `(tactic| (dsimp only [List.set]; try exact rfl))
local macro_rules | `(tactic| walk_at "seq") => `(tactic| exact sqL (Wd.at (by assumption) (by walk_at "mem")))
local macro_rules | `(tactic| walk_at "own") => `(tactic| first | exact Or.inl (by walk_at "mem") | exact Or.inr (by assumption))
local macro_rules | `(tactic| walk_at "hi") => `(tactic| first | exact (rfl : (_ : List (Addr × HO))[0]? = _) | exact (rfl : (_ : List (Addr × HO))[1]? = _) | exact (rfl : (_ : List (Addr × HO))[2]? = _) | exact (rfl : (_ : List (Addr × HO))[3]? = _) | exact (rfl : (_ : List (Addr × HO))[4]? = _) | exact (rfl : (_ : List (Addr × HO))[5]? = _) | exact (rfl : (_ : List (Addr × HO))[6]? = _) | exact (rfl : (_ : List (Addr × HO))[7]? = _) | exact (rfl : (_ : List (Addr × HO))[8]? = _) | exact (rfl : (_ : List (Addr × HO))[9]? = _))
local macro_rules | `(tactic| walk_at "sz") => `(tactic| first | (show _ ≤ sizeLine; decide) | (refine sz_ok ?_; first | omega | (simp only [List.length_cons, List.length_nil, List.length_map, PySem.Str.length_append] <;> omega) | (simp; done)) | (refine TZ.sz_lt ?_; first | omega | (simp only [List.length_cons, List.length_nil, List.length_map, List.length_append, PySem.Str.length_append] <;> omega) | (simp; done)))
local macro_rules | `(tactic| walk_at "rd1") => `(tactic| first
  | with_reducible refine' r_seq ?_
  | ((with_reducible refine' r_var ?hv ?_); (case hv => exact rfl))
  | with_reducible refine' r_c ?_
  | with_reducible refine' r_op ?_
  | with_reducible refine' r_I0 ?_
  | ((with_reducible refine' r_set ?hv ?_); (case hv => walk_at "set"))
  | with_reducible refine' r_asg ?_
  | with_reducible refine' r_cons ?_
  | with_reducible refine' r_nil ?_
  | with_reducible refine' r_cb ?_
  | with_reducible refine' r_call0 ?_
  | with_reducible refine' r_test ?_
  | with_reducible refine' r_B ?_
  | with_reducible refine' r_bl ?_
  | with_reducible refine' r_ifS ?_
  | with_reducible refine' r_and ?_
  | with_reducible refine' r_or ?_
  | with_reducible refine' r_not ?_
  | with_reducible refine' r_andV ?_
  | with_reducible refine' r_orV ?_
  | with_reducible refine' r_notV ?_
  | with_reducible refine' r_ifE ?_
  | with_reducible refine' r_eqI ?_
  | with_reducible refine' r_neI ?_
  | with_reducible refine' r_eqS ?_
  | with_reducible refine' r_neS ?_
  | ((with_reducible refine' r_eq ?hv ?_); (case hv => exact rfl))
  | ((with_reducible refine' r_ne ?hv ?_); (case hv => exact rfl))
  | with_reducible refine' r_ret ?_
  | with_reducible refine' r_retN ?_
  | with_reducible refine' r_drop ?_
  | with_reducible refine' r_next ?_
  | with_reducible refine' r_cont ?_
  | with_reducible refine' r_brk ?_
  | with_reducible refine' r_asgS ?_
  | with_reducible refine' r_asgT ?_
  | with_reducible refine' r_gN ?_
  | with_reducible refine' r_gc ?_
  | with_reducible refine' r_gn ?_
  | with_reducible refine' r_tup ?_
  | with_reducible refine' r_lst ?_
  | with_reducible refine' r_sl ?_
  | with_reducible refine' r_nopart ?_
  | with_reducible refine' r_part ?_
  | with_reducible refine' r_partI ?_
  | with_reducible refine' r_un ?_
  | with_reducible refine' r_U ?_
  | with_reducible refine' r_int1 ?_
  | with_reducible refine' r_l1 ?_
  | with_reducible refine' r_l2 ?_
  | with_reducible refine' r_sign ?_
  | with_reducible refine' r_refl ?_
  | with_reducible refine' r_bm ?_
  | with_reducible refine' r_bm0 ?_
  | ((with_reducible refine' r_I ?hv ?_); (case hv => walk_at "cd"))
  | ((with_reducible refine' r_ixL ?hs ?he ?_); (case hs => walk_at "seq"); (case he => first | assumption | exact rfl))
  | ((with_reducible refine' r_ixT ?hs ?he ?_); (case hs => exact Wd.at (by assumption) (by walk_at "mem")); (case he => exact rfl))
  | ((with_reducible refine' r_lenL ?hs ?_); (case hs => walk_at "seq"))
  | ((with_reducible refine' r_lenT ?hs ?_); (case hs => exact Wd.at (by assumption) (by walk_at "mem")))
  | ((with_reducible refine' r_tyL ?hs ?_); (case hs => walk_at "seq"))
  | ((with_reducible refine' r_setW ?w ?hi ?own ?e ?hy ?hL ?_); (case w => assumption); (case hi => walk_at "hi"); (case own => walk_at "own"); (case e => exact rfl); (case hy => walk_at "set"); (case hL => walk_at "set"); intro _ _)
  | ((with_reducible refine' r_mkT ?w ?hs ?_); (case w => assumption); (case hs => walk_at "sz"); intro _ _ _ _ _)
  | ((with_reducible refine' r_mkL ?w ?hs ?_); (case w => assumption); (case hs => walk_at "sz"); intro _ _ _ _ _)
  | with_reducible refine' r_for ?_
  | with_reducible refine' r_iList ?_
  | with_reducible refine' r_iRng1 ?_
  | with_reducible refine' r_iStr ?_
  | with_reducible refine' r_iEs ?_
  | with_reducible refine' r_iEl ?_
  | with_reducible refine' r_StQ ?_
  | with_reducible refine' r_EsQ ?_
  | ((with_reducible refine' r_RgQ ?hv ?_); (case hv => first | omega | assumption))
  | ((with_reducible refine' r_LsQ ?hs ?_); (case hs => walk_at "seq"))
  | ((with_reducible refine' r_ElQ ?hs ?_); (case hs => walk_at "seq"))
  | with_reducible refine' r_lc ?_
  | with_reducible refine' r_dget ?_
  | with_reducible refine' r_din ?_
  | with_reducible refine' r_dnin ?_
  | with_reducible refine' r_dput ?_
  | with_reducible refine' r_dsetd ?_
  | with_reducible refine' r_fld ?_
  | with_reducible refine' r_fset ?_
  | ((with_reducible refine' r_dinS ?hs ?_); (case hs => exact Or.inl (Wd.at (by assumption) (by walk_at "mem"))))
  | ((with_reducible refine' r_dgetS ?hs ?e ?_); (case hs => exact Or.inl (Wd.at (by assumption) (by walk_at "mem"))); (case e => assumption))
  | ((with_reducible refine' r_ds0 ?hs ?_); (case hs => exact Wd.at (by assumption) (by walk_at "mem")))
  | ((with_reducible refine' r_dputS ?w ?hi ?own ?hl ?hL ?_); (case w => assumption); (case hi => walk_at "hi"); (case own => walk_at "own"); (case hl => first | assumption | walk_at "sz"); (case hL => walk_at "set"); intro _ _)
  | ((with_reducible refine' r_dnew ?w ?_); (case w => assumption); intro _ _ _ _ _)
  | ((with_reducible refine' r_lenD ?hs ?_); (case hs => exact Wd.at (by assumption) (by walk_at "mem")))
  | ((with_reducible refine' r_fldW ?hs ?c ?nf ?l ?_); (case hs => exact Wd.at (by assumption) (by walk_at "mem")); (case c => assumption); (case nf => assumption); (case l => exact rfl))
  | ((with_reducible refine' r_lenS ?hs ?_); (case hs => walk_at "sz"))
  | ((with_reducible refine' r_slS ?hs ?_); (case hs => walk_at "sz"))
  | ((with_reducible refine' r_cat ?hs ?_); (case hs => walk_at "sz"))
  | ((with_reducible refine' r_ixS ?hs ?e ?_); (case hs => walk_at "sz"); (case e => assumption))
  | ((with_reducible refine' r_appW ?w ?hi ?own ?e ?hL ?_); (case w => assumption); (case hi => walk_at "hi"); (case own => walk_at "own"); (case e => walk_at "sz"); (case hL => walk_at "set"); intro _ _)
  | ((with_reducible refine' r_nextS ?w ?hi ?hc ?own ?ne ?n0 ?n1 ?hL ?_); (case w => assumption); (case hi => walk_at "hi"); (case hc => walk_at "mem"); (case own => walk_at "own"); (case ne => assumption); (case n0 => omega); (case n1 => omega); (case hL => intro _ _ _; walk_at "set"); intro _ _ _ _ _ _ _ _)
  | with_reducible refine' r_ss ?_
  | with_reducible refine' ifNT ?_
  | with_reducible refine' ifNF ?_
  | with_reducible refine' ifT ?_
  | with_reducible refine' ifF ?_)
local macro_rules | `(tactic| walk_at "rd") => `(tactic| repeat walk_at "rd1")
local macro_rules | `(tactic| walk_at "br") => `(tactic| first | with_reducible refine' if2 (fun _ => ?_) (fun _ => ?_) | with_reducible refine' ifn2 (fun _ => ?_) (fun _ => ?_) | with_reducible refine' ifb (fun _ => ?_) (fun _ => ?_) | with_reducible refine' ifnb (fun _ => ?_) (fun _ => ?_))
local macro_rules | `(tactic| walk_at "rdb") => `(tactic| repeat' (first | walk_at "rd1" | walk_at "br"))
local macro_rules | `(tactic| walk_at "bro") => `(tactic| first | with_reducible refine if2 (fun h => (by exfalso; omega)) (fun _ => ?_) | with_reducible refine if2 (fun _ => ?_) (fun h => (by exfalso; omega)) | with_reducible refine ifn2 (fun h => (by exfalso; omega)) (fun _ => ?_) | with_reducible refine ifn2 (fun _ => ?_) (fun h => (by exfalso; omega)) | with_reducible refine if2 (fun _ => ?_) (fun h => absurd rfl h) | with_reducible refine ifn2 (fun h => absurd rfl h) (fun _ => ?_))
local macro_rules | `(tactic| walk_at "rdo") => `(tactic| repeat (first | walk_at "rd1" | walk_at "bro"))

section
variable {P : Program} {w : World} {K : PySem.W.Frag} {mg : Str → Option Value} {base : Heap} {ad : Ad}
abbrev s_law_word : Stmt := topS 20
theorem sc_law_word : FnScope ["state", "letters", "size", "word", "k"] ["state", "letters", "size"] (defScope s_law_word) := ⟨rfl, rfl, rfl, by decide +kernel, rfl, by decide +kernel, by decide +kernel⟩
def spLWord : Sp := fun vs H Q _ => ∃ (st cl : Addr) (cs : List Int) (ls : Str) (n : Int), vs = [.ref st, .str ls, .int n] ∧ StAt H st cl cs ∧ 1 ≤ ls.length ∧ ls.length ≤ 1000 ∧ 0 ≤ n ∧ n ≤ 1000 ∧
  ∀ (z : Str) (H' : Hp), z.length = n.toNat → Over ls z → Frm [st] H H' → StAt H' st cl cs → Q (.str z) H'
theorem w_law_word (T : Txt K mg ad) (c_law_next : CalX P w K mg base L2.CX0 1 "_law_next" spNext) {f : Addr} {fd : FuncData} (F : Fun K "_law_word" "_law_word" s_law_word f fd) : FnOk P w K mg base L2.CX0 2 f fd ["state", "letters", "size"] spLWord := by
  refine F.ok sc_law_word (fun vs H Q E h => ?_) (fun cdv A outer s H vs Q E hr h => ?_)
  · obtain ⟨st, cl, cs, ls, n, rfl, _⟩ := h
    rfl
  · obtain ⟨st, cl, cs, ls, n, rfl, ⟨⟨a, b, c, h1⟩, h2, ne⟩, l1, l2, n0, n1, k⟩ := h
    have w0 := two_entries [st] h1 h2 ne
    refine ⟨_, (pss_cons (ps_set (i := 3) sc_law_word.nd rfl (Or.inl rfl) pe_str)
    (pss_cons (ps_for PassesOwn.never rfl (pi_range1 (by rfl) T.n_range (pa_cons (pv 2) pa_nil)) (pg_name (i := 4) sc_law_word.nd rfl (Or.inl rfl))
      (pss_one (ps_set (i := 3) sc_law_word.nd rfl (Or.inl rfl) (pe_op op_add_str (pv 3) (pe_ix ix_str (pv 1) (pe_cx c_law_next hr (by decide) rfl pass0 (pa_cons (pv 0) (pa_cons (pe_callB call_len_str (by rfl) T.n_len (by decide +kernel) (pa_cons (pv 1) pa_nil)) pa_nil))) (fun _ _ => rfl))))))
    (pss_one (ps_ret (pv 3))))), ?_⟩
    try simp only [cxK, cxKX]
    show (_ : TS) (_ : Ends) [some _, some _, some _, none, none] _
    walk_at "rd"
    refine f_rng (fun i σ H' => (∃ a b c : Int, Wd H [st] H' [(st, .lst [.ref cl, .int a, .int b, .int c]), (cl, .lst (cs.map V.int))]) ∧ ∃ (z : Str) (v : Option V), σ = [some (.ref st), some (.str ls), some (.int n), some (.str z), v] ∧ z.length = i ∧ Over ls z) ⟨⟨a, b, c, w0⟩, "", none, rfl, rfl, over_nil ls⟩ (fun i σ H' hi p => ?_) (fun σ H' p => ?_)
    · obtain ⟨⟨a, b, c, w1⟩, z, v, rfl, hz, ov⟩ := p
      walk_at "rd"
      rename_i r a' b' c' H2 r0 r1 w2
      obtain ⟨d, hd, _, hm⟩ := atI_str r0 r1
      have one : (⟨#[d]⟩ : Str).length = 1 := rfl
      walk_at "rd"
      exact ⟨⟨_, _, _, w2⟩, _, _, rfl, by rw [len_app1, hz], over_app ov hm⟩
    · obtain ⟨⟨a, b, c, w1⟩, z, v, rfl, hz, ov⟩ := p
      walk_at "rd"
      exact k z H' hz ov w1.fr ⟨⟨a, b, c, w1.at (List.Mem.head _)⟩, w1.at (by walk_at "mem"), ne⟩
end
end TZ

namespace TZ
open PySem L2
theorem r_viewS {H : Hp} {z : Str} {a n : Int} {Q : VK} {E : XK} (hz : z.length ≤ 1000) (k : Q (.str (vw z a n)) H) : spView [.str z, .int a, .int n] H Q E := ⟨z, a, n, rfl, hz, k⟩
theorem r_wordW {H0 H : Hp} {ms : List Addr} {L : List (Addr × HO)} {cw : Addr} {ls z : Str} {Q : VK} {E : XK} (w : Wd H0 ms H L) (ov : Over ls z) (k : ∀ H1, Wd H0 ms H1 L → Q .non H1) : spWord cw [.str ls, .str z] H Q E :=
  ⟨ls, z, rfl, fun _ H1 f => k H1 (w.call0 f), fun i b => by
    obtain ⟨⟨c, hc, hn⟩, _⟩ := b
    exact absurd (ov i c hc) hn⟩
/-! ### tables from views to single letters -/
def DictOk (kvs : List (Key × V)) : Prop := ∀ (k : Key) (v : V), valV kvs k = some v → ∃ c : Nat, v = .str ⟨#[c]⟩
theorem DictOk.nil : DictOk [] := fun k v e => by cases e
theorem DictOk.put {kvs : List (Key × V)} (h : DictOk kvs) (k : Key) (c : Nat) : DictOk (putK kvs k (.str ⟨#[c]⟩)) := fun j v e => by
  rw [valV_put] at e
  split at e
  · cases e; exact ⟨c, rfl⟩
  · exact h j v e
def imgK (kvs : List (Key × V)) (z : Str) (n : Int) : Nat → Option Str
  | 0 => some ""
  | i + 1 => (imgK kvs z n i).bind fun y => match valV kvs (Sum.inr (vw z i n)) with
    | some (.str c) => some (y ++ c)
    | _ => none
def optV : Option Str → V
  | none => .non
  | some y => .str y
theorem imgK_none {kvs : List (Key × V)} {z : Str} {n : Int} {i : Nat} (h : imgK kvs z n i = none) : ∀ j, i ≤ j → imgK kvs z n j = none
  | 0, hj => by
    have : i = 0 := by omega
    rw [← this]; exact h
  | j + 1, hj => by
    by_cases e : i = j + 1
    · rw [← e]; exact h
    · show (imgK kvs z n j).bind _ = none
      rw [imgK_none h j (by omega)]
      rfl
theorem imgK_stop {kvs : List (Key × V)} {z : Str} {n : Int} {i : Nat} (h : valV kvs (Sum.inr (vw z i n)) = none) : imgK kvs z n (i + 1) = none := by
  show (imgK kvs z n i).bind _ = none
  cases imgK kvs z n i with
  | none => rfl
  | some y => show (match valV kvs (Sum.inr (vw z i n)) with | some (.str c) => some (y ++ c) | _ => none) = none; rw [h]
theorem imgK_go {kvs : List (Key × V)} {z y c : Str} {n : Int} {i : Nat} (h : imgK kvs z n i = some y) (e : valV kvs (Sum.inr (vw z i n)) = some (.str c)) : imgK kvs z n (i + 1) = some (y ++ c) := by
  show (imgK kvs z n i).bind _ = _
  rw [h]
  show (match valV kvs (Sum.inr (vw z i n)) with | some (.str c) => some (y ++ c) | _ => none) = _
  rw [e]
local macro_rules | `(tactic| walk_at "cd") => `(tactic| first | omega | exact ⟨by decide, by decide, by decide⟩ | exact Or.inl ⟨by decide, by decide⟩ | exact Or.inr ⟨by decide, by decide⟩ | exact Or.inl ⟨by omega, by omega⟩ | exact Or.inr ⟨by omega, by omega⟩ | exact ⟨by omega, by omega⟩)
local macro_rules | `(tactic| walk_at "mem") => `(tactic| ((repeat (first | exact List.Mem.head _ | apply List.Mem.tail)); done))
local macro_rules | `(tactic| walk_at "set") => `(tactic| (dsimp only [List.set]; try exact rfl))
local macro_rules | `(tactic| walk_at "seq") => `(tactic| exact sqL (Wd.at (by assumption) (by walk_at "mem")))
local macro_rules | `(tactic| walk_at "own") => `(tactic| first | exact Or.inl (by walk_at "mem") | exact Or.inr (by assumption))
local macro_rules | `(tactic| walk_at "hi") => `(tactic| first | exact (rfl : (_ : List (Addr × HO))[0]? = _) | exact (rfl : (_ : List (Addr × HO))[1]? = _) | exact (rfl : (_ : List (Addr × HO))[2]? = _) | exact (rfl : (_ : List (Addr × HO))[3]? = _) | exact (rfl : (_ : List (Addr × HO))[4]? = _) | exact (rfl : (_ : List (Addr × HO))[5]? = _) | exact (rfl : (_ : List (Addr × HO))[6]? = _) | exact (rfl : (_ : List (Addr × HO))[7]? = _) | exact (rfl : (_ : List (Addr × HO))[8]? = _) | exact (rfl : (_ : List (Addr × HO))[9]? = _))
local macro_rules | `(tactic| walk_at "sz") => `(tactic| first | (show _ ≤ sizeLine; decide) | (refine sz_ok ?_; first | omega | (simp only [List.length_cons, List.length_nil, List.length_map, PySem.Str.length_append] <;> omega) | (simp; done)) | (refine TZ.sz_lt ?_; first | omega | (simp only [List.length_cons, List.length_nil, List.length_map, List.length_append, PySem.Str.length_append] <;> omega) | (simp; done)))
local macro_rules | `(tactic| walk_at "rd1") => `(tactic| first
  | with_reducible refine' r_seq ?_
  | ((with_reducible refine' r_var ?hv ?_); (case hv => exact rfl))
  | with_reducible refine' r_c ?_
  | with_reducible refine' r_op ?_
  | with_reducible refine' r_I0 ?_
  | ((with_reducible refine' r_set ?hv ?_); (case hv => walk_at "set"))
  | with_reducible refine' r_asg ?_
  | with_reducible refine' r_cons ?_
  | with_reducible refine' r_nil ?_
  | with_reducible refine' r_cb ?_
  | with_reducible refine' r_call0 ?_
  | with_reducible refine' r_test ?_
  | with_reducible refine' r_B ?_
  | with_reducible refine' r_bl ?_
  | with_reducible refine' r_ifS ?_
  | with_reducible refine' r_and ?_
  | with_reducible refine' r_or ?_
  | with_reducible refine' r_not ?_
  | with_reducible refine' r_andV ?_
  | with_reducible refine' r_orV ?_
  | with_reducible refine' r_notV ?_
  | with_reducible refine' r_ifE ?_
  | with_reducible refine' r_eqI ?_
  | with_reducible refine' r_neI ?_
  | with_reducible refine' r_eqS ?_
  | with_reducible refine' r_neS ?_
  | ((with_reducible refine' r_eq ?hv ?_); (case hv => exact rfl))
  | ((with_reducible refine' r_ne ?hv ?_); (case hv => exact rfl))
  | with_reducible refine' r_ret ?_
  | with_reducible refine' r_retN ?_
  | with_reducible refine' r_drop ?_
  | with_reducible refine' r_next ?_
  | with_reducible refine' r_cont ?_
  | with_reducible refine' r_brk ?_
  | with_reducible refine' r_asgS ?_
  | with_reducible refine' r_asgT ?_
  | with_reducible refine' r_gN ?_
  | with_reducible refine' r_gc ?_
  | with_reducible refine' r_gn ?_
  | with_reducible refine' r_tup ?_
  | with_reducible refine' r_lst ?_
  | with_reducible refine' r_sl ?_
  | with_reducible refine' r_nopart ?_
  | with_reducible refine' r_part ?_
  | with_reducible refine' r_partI ?_
  | with_reducible refine' r_un ?_
  | with_reducible refine' r_U ?_
  | with_reducible refine' r_int1 ?_
  | with_reducible refine' r_l1 ?_
  | with_reducible refine' r_l2 ?_
  | with_reducible refine' r_sign ?_
  | with_reducible refine' r_refl ?_
  | with_reducible refine' r_bm ?_
  | with_reducible refine' r_bm0 ?_
  | ((with_reducible refine' r_I ?hv ?_); (case hv => walk_at "cd"))
  | ((with_reducible refine' r_ixL ?hs ?he ?_); (case hs => walk_at "seq"); (case he => first | assumption | exact rfl))
  | ((with_reducible refine' r_ixT ?hs ?he ?_); (case hs => exact Wd.at (by assumption) (by walk_at "mem")); (case he => exact rfl))
  | ((with_reducible refine' r_lenL ?hs ?_); (case hs => walk_at "seq"))
  | ((with_reducible refine' r_lenT ?hs ?_); (case hs => exact Wd.at (by assumption) (by walk_at "mem")))
  | ((with_reducible refine' r_tyL ?hs ?_); (case hs => walk_at "seq"))
  | ((with_reducible refine' r_setW ?w ?hi ?own ?e ?hy ?hL ?_); (case w => assumption); (case hi => walk_at "hi"); (case own => walk_at "own"); (case e => exact rfl); (case hy => walk_at "set"); (case hL => walk_at "set"); intro _ _)
  | ((with_reducible refine' r_mkT ?w ?hs ?_); (case w => assumption); (case hs => walk_at "sz"); intro _ _ _ _ _)
  | ((with_reducible refine' r_mkL ?w ?hs ?_); (case w => assumption); (case hs => walk_at "sz"); intro _ _ _ _ _)
  | with_reducible refine' r_for ?_
  | with_reducible refine' r_iList ?_
  | with_reducible refine' r_iRng1 ?_
  | with_reducible refine' r_iStr ?_
  | with_reducible refine' r_iEs ?_
  | with_reducible refine' r_iEl ?_
  | with_reducible refine' r_StQ ?_
  | with_reducible refine' r_EsQ ?_
  | ((with_reducible refine' r_RgQ ?hv ?_); (case hv => first | omega | assumption))
  | ((with_reducible refine' r_LsQ ?hs ?_); (case hs => walk_at "seq"))
  | ((with_reducible refine' r_ElQ ?hs ?_); (case hs => walk_at "seq"))
  | with_reducible refine' r_lc ?_
  | with_reducible refine' r_dget ?_
  | with_reducible refine' r_din ?_
  | with_reducible refine' r_dnin ?_
  | with_reducible refine' r_dput ?_
  | with_reducible refine' r_dsetd ?_
  | with_reducible refine' r_fld ?_
  | with_reducible refine' r_fset ?_
  | ((with_reducible refine' r_dinS ?hs ?_); (case hs => exact Or.inl (Wd.at (by assumption) (by walk_at "mem"))))
  | ((with_reducible refine' r_dgetS ?hs ?e ?_); (case hs => exact Or.inl (Wd.at (by assumption) (by walk_at "mem"))); (case e => assumption))
  | ((with_reducible refine' r_ds0 ?hs ?_); (case hs => exact Wd.at (by assumption) (by walk_at "mem")))
  | ((with_reducible refine' r_dputS ?w ?hi ?own ?hl ?hL ?_); (case w => assumption); (case hi => walk_at "hi"); (case own => walk_at "own"); (case hl => first | assumption | walk_at "sz"); (case hL => walk_at "set"); intro _ _)
  | ((with_reducible refine' r_dnew ?w ?_); (case w => assumption); intro _ _ _ _ _)
  | ((with_reducible refine' r_lenD ?hs ?_); (case hs => exact Wd.at (by assumption) (by walk_at "mem")))
  | ((with_reducible refine' r_fldW ?hs ?c ?nf ?l ?_); (case hs => exact Wd.at (by assumption) (by walk_at "mem")); (case c => assumption); (case nf => assumption); (case l => exact rfl))
  | ((with_reducible refine' r_lenS ?hs ?_); (case hs => walk_at "sz"))
  | ((with_reducible refine' r_slS ?hs ?_); (case hs => walk_at "sz"))
  | ((with_reducible refine' r_cat ?hs ?_); (case hs => walk_at "sz"))
  | ((with_reducible refine' r_ixS ?hs ?e ?_); (case hs => walk_at "sz"); (case e => assumption))
  | ((with_reducible refine' r_appW ?w ?hi ?own ?e ?hL ?_); (case w => assumption); (case hi => walk_at "hi"); (case own => walk_at "own"); (case e => walk_at "sz"); (case hL => walk_at "set"); intro _ _)
  | ((with_reducible refine' r_viewS ?hz ?_); (case hz => omega))
  | ((with_reducible refine' r_wordW ?w ?ov ?_); (case w => assumption); (case ov => assumption); intro _ _)
  | ((with_reducible refine' r_nextS ?w ?hi ?hc ?own ?ne ?n0 ?n1 ?hL ?_); (case w => assumption); (case hi => walk_at "hi"); (case hc => walk_at "mem"); (case own => walk_at "own"); (case ne => assumption); (case n0 => omega); (case n1 => omega); (case hL => intro _ _ _; walk_at "set"); intro _ _ _ _ _ _ _ _)
  | with_reducible refine' r_ss ?_
  | with_reducible refine' ifNT ?_
  | with_reducible refine' ifNF ?_
  | with_reducible refine' ifT ?_
  | with_reducible refine' ifF ?_)
local macro_rules | `(tactic| walk_at "rd") => `(tactic| repeat walk_at "rd1")
local macro_rules | `(tactic| walk_at "br") => `(tactic| first | with_reducible refine' if2 (fun _ => ?_) (fun _ => ?_) | with_reducible refine' ifn2 (fun _ => ?_) (fun _ => ?_) | with_reducible refine' ifb (fun _ => ?_) (fun _ => ?_) | with_reducible refine' ifnb (fun _ => ?_) (fun _ => ?_))
local macro_rules | `(tactic| walk_at "rdb") => `(tactic| repeat' (first | walk_at "rd1" | walk_at "br"))
local macro_rules | `(tactic| walk_at "bro") => `(tactic| first | with_reducible refine if2 (fun h => (by exfalso; omega)) (fun _ => ?_) | with_reducible refine if2 (fun _ => ?_) (fun h => (by exfalso; omega)) | with_reducible refine ifn2 (fun h => (by exfalso; omega)) (fun _ => ?_) | with_reducible refine ifn2 (fun _ => ?_) (fun h => (by exfalso; omega)) | with_reducible refine if2 (fun _ => ?_) (fun h => absurd rfl h) | with_reducible refine ifn2 (fun h => absurd rfl h) (fun _ => ?_))
local macro_rules | `(tactic| walk_at "rdo") => `(tactic| repeat (first | walk_at "rd1" | walk_at "bro"))

section
variable {P : Program} {w : World} {K : PySem.W.Frag} {mg : Str → Option Value} {base : Heap} {ad : Ad}
/-! ### _law_image -/
abbrev s_law_image : Stmt := topS 22
theorem sc_law_image : FnScope ["state", "known", "word", "images", "size", "image", "at", "view"] ["state", "known", "word", "images", "size"] (defScope s_law_image) := ⟨rfl, rfl, rfl, by decide +kernel, rfl, by decide +kernel, by decide +kernel⟩
def spLImage : Sp := fun vs H Q _ => ∃ (st cl kd : Addr) (cs : List Int) (kvs : List (Key × V)) (z im : Str) (n : Int), vs = [.ref st, .ref kd, .str z, .str im, .int n] ∧ StAt H st cl cs ∧ H kd = some (.dK kvs) ∧ DictOk kvs ∧ kvs.length ≤ 10000 ∧ 1 ≤ im.length ∧ im.length ≤ 1000 ∧ z.length ≤ 1000 ∧
  ∀ (y : Str) (kvs' : List (Key × V)) (H' : Hp), y.length = z.length → DictOk kvs' → kvs'.length ≤ kvs.length + z.length → H' kd = some (.dK kvs') → Frm [st, kd] H H' → StAt H' st cl cs → Q (.str y) H'
theorem w_law_image (T : Txt K mg ad) (c_law_next : CalX P w K mg base L2.CX0 1 "_law_next" spNext) (c_law_view : CalX P w K mg base L2.CX0 1 "_law_view" spView) {f : Addr} {fd : FuncData} (F : Fun K "_law_image" "_law_image" s_law_image f fd) : FnOk P w K mg base L2.CX0 2 f fd ["state", "known", "word", "images", "size"] spLImage := by
  refine F.ok sc_law_image (fun vs H Q E h => ?_) (fun cdv A outer s H vs Q E hr h => ?_)
  · obtain ⟨st, cl, kd, cs, kvs, z, im, n, rfl, _⟩ := h
    rfl
  · obtain ⟨st, cl, kd, cs, kvs, z, im, n, rfl, ⟨⟨a, b, c, h1⟩, h2, ne⟩, h3, dk, kl, i1, i2, z1, k⟩ := h
    have hu := hu_of hr
    have dks : kd ≠ st := ne_of h3 h1 (by intro z; cases z)
    have dkc : kd ≠ cl := ne_of h3 h2 (by intro z; cases z)
    have w0 := two_entries [st, kd] h1 h2 ne
    have w1 : Wd H [st, kd] H [(kd, .dK kvs), (st, .lst [.ref cl, .int a, .int b, .int c]), (cl, .lst (cs.map V.int))] :=
      ⟨List.nodup_cons.mpr ⟨by simp [dks, dkc], w0.nd⟩, fun p hp => by
        rcases List.mem_cons.mp hp with rfl | hp
        · exact h3
        · exact w0.at' p hp, w0.fr⟩
    refine ⟨_, (pss_cons (ps_set (i := 5) sc_law_image.nd rfl (Or.inl rfl) pe_str)
    (pss_cons (ps_for PassesOwn.never rfl (pi_range1 (by rfl) T.n_range (pa_cons (pe_callB call_len_str (by rfl) T.n_len (by decide +kernel) (pa_cons (pv 2) pa_nil)) pa_nil)) (pg_name (i := 6) sc_law_image.nd rfl (Or.inl rfl))
      (pss_cons (ps_set (i := 7) sc_law_image.nd rfl (Or.inl rfl) (pe_cx c_law_view hr (by decide) rfl pass0 (pa_cons (pv 2) (pa_cons (pv 6) (pa_cons (pv 4) pa_nil)))))
      (pss_cons (ps_if (pt_cmp (pc_dnotin hu (pv 7) (pv 1))) (pss_one (ps_dput hu (pv 1) (pv 7) (pe_ix ix_str (pv 3) (pe_cx c_law_next hr (by decide) rfl pass0 (pa_cons (pv 0) (pa_cons (pe_callB call_len_str (by rfl) T.n_len (by decide +kernel) (pa_cons (pv 3) pa_nil)) pa_nil))) (fun _ _ => rfl)) rfl)) pss_nil)
      (pss_one (ps_set (i := 5) sc_law_image.nd rfl (Or.inl rfl) (pe_op op_add_str (pv 5) (pe_dget hu (pv 1) (pv 7) (fun _ _ => rfl))))))))
    (pss_one (ps_ret (pv 5))))), ?_⟩
    try simp only [cxK, cxKX]
    show (_ : TS) (_ : Ends) [some _, some _, some _, some _, some _, none, none, none] _
    walk_at "rd"
    refine f_rng (fun i σ H' => (∃ (a b c : Int) (kvs' : List (Key × V)), Wd H [st, kd] H' [(kd, .dK kvs'), (st, .lst [.ref cl, .int a, .int b, .int c]), (cl, .lst (cs.map V.int))] ∧ DictOk kvs' ∧ kvs'.length ≤ kvs.length + i) ∧
      ∃ (y : Str) (u v : Option V), σ = [some (.ref st), some (.ref kd), some (.str z), some (.str im), some (.int n), some (.str y), u, v] ∧ y.length = i) ⟨⟨a, b, c, kvs, w1, dk, Nat.le_refl _⟩, "", none, none, rfl, rfl⟩ (fun i σ H' hi p => ?_) (fun σ H' p => ?_)
    · obtain ⟨⟨a, b, c, kvs', w2, dk', kl'⟩, y, u, v, rfl, hy⟩ := p
      have hi' : i < z.length := by simpa using hi
      walk_at "rd"
      refine ifnb (fun hn => ?_) (fun hn => ?_)
      · walk_at "rd"
        rename_i r a' b' c' H2 r0 r1 w3
        obtain ⟨d, hd, _, hm⟩ := atI_str r0 r1
        have one : (⟨#[d]⟩ : Str).length = 1 := rfl
        have ev : valV (putK kvs' (Sum.inr (vw z i n)) (.str ⟨#[d]⟩)) (Sum.inr (vw z i n)) = some (.str ⟨#[d]⟩) := by rw [valV_put, if_pos rfl]
        walk_at "rd"
        rename_i H3 w4
        exact ⟨⟨_, _, _, _, w4, dk'.put _ d, by have := length_putK kvs' (Sum.inr (vw z i n)) (.str ⟨#[d]⟩); omega⟩, _, _, _, rfl, by rw [len_app1, hy]⟩
      · obtain ⟨v0, ev⟩ := Option.isSome_iff_exists.mp hn
        obtain ⟨d, rfl⟩ := dk' _ _ ev
        have one : (⟨#[d]⟩ : Str).length = 1 := rfl
        walk_at "rd"
        exact ⟨⟨_, _, _, _, w2, dk', by omega⟩, _, _, _, rfl, by rw [len_app1, hy]⟩
    · obtain ⟨⟨a, b, c, kvs', w2, dk', kl'⟩, y, u, v, rfl, hy⟩ := p
      walk_at "rd"
      exact k y kvs' H' (by simpa using hy) dk' (by simpa using kl') (w2.at (by walk_at "mem")) w2.fr ⟨⟨a, b, c, w2.at (by walk_at "mem")⟩, w2.at (by walk_at "mem"), ne⟩
end
end TZ

namespace TZ
open PySem L2
theorem putF_new {f : Str} {v : V} : ∀ {fs : List (Str × V)} (ks : List Str), fs.map (·.1) = ks → f ∉ ks → putF f v fs = fs ++ [(f, v)]
  | [], _, _, _ => rfl
  | (g, u) :: r, ks, e, h => by
    subst e
    have h1 : ¬ g = f := fun z => h (by rw [z]; exact List.mem_cons_self)
    have h2 : f ∉ r.map (·.1) := fun z => h (List.mem_cons_of_mem _ z)
    show (if g = f then (g, v) :: r else (g, u) :: putF f v r) = _
    rw [if_neg h1, putF_new (r.map (·.1)) rfl h2]
    rfl
local macro_rules | `(tactic| walk_at "cd") => `(tactic| first | omega | exact ⟨by decide, by decide, by decide⟩ | exact Or.inl ⟨by decide, by decide⟩ | exact Or.inr ⟨by decide, by decide⟩ | exact Or.inl ⟨by omega, by omega⟩ | exact Or.inr ⟨by omega, by omega⟩ | exact ⟨by omega, by omega⟩)
local macro_rules | `(tactic| walk_at "mem") => `(tactic| ((repeat (first | exact List.Mem.head _ | apply List.Mem.tail)); done))
local macro_rules | `(tactic| walk_at "set") => `(tactic| (dsimp only [List.set]; try exact rfl))
local macro_rules | `(tactic| walk_at "seq") => `(tactic| exact sqL (Wd.at (by assumption) (by walk_at "mem")))
local macro_rules | `(tactic| walk_at "own") => `(tactic| first | exact Or.inl (by walk_at "mem") | exact Or.inr (by assumption))
local macro_rules | `(tactic| walk_at "hi") => `(tactic| first | exact (rfl : (_ : List (Addr × HO))[0]? = _) | exact (rfl : (_ : List (Addr × HO))[1]? = _) | exact (rfl : (_ : List (Addr × HO))[2]? = _) | exact (rfl : (_ : List (Addr × HO))[3]? = _) | exact (rfl : (_ : List (Addr × HO))[4]? = _) | exact (rfl : (_ : List (Addr × HO))[5]? = _) | exact (rfl : (_ : List (Addr × HO))[6]? = _) | exact (rfl : (_ : List (Addr × HO))[7]? = _) | exact (rfl : (_ : List (Addr × HO))[8]? = _) | exact (rfl : (_ : List (Addr × HO))[9]? = _))
local macro_rules | `(tactic| walk_at "sz") => `(tactic| first | (show _ ≤ sizeLine; decide) | (refine sz_ok ?_; first | omega | (simp only [List.length_cons, List.length_nil, List.length_map, PySem.Str.length_append] <;> omega) | (simp; done)) | (refine TZ.sz_lt ?_; first | omega | (simp only [List.length_cons, List.length_nil, List.length_map, List.length_append, PySem.Str.length_append] <;> omega) | (simp; done)))
local macro_rules | `(tactic| walk_at "rd1") => `(tactic| first
  | with_reducible refine' r_seq ?_
  | ((with_reducible refine' r_var ?hv ?_); (case hv => exact rfl))
  | with_reducible refine' r_c ?_
  | with_reducible refine' r_op ?_
  | with_reducible refine' r_I0 ?_
  | ((with_reducible refine' r_set ?hv ?_); (case hv => walk_at "set"))
  | with_reducible refine' r_asg ?_
  | with_reducible refine' r_cons ?_
  | with_reducible refine' r_nil ?_
  | with_reducible refine' r_cb ?_
  | with_reducible refine' r_call0 ?_
  | with_reducible refine' r_test ?_
  | with_reducible refine' r_B ?_
  | with_reducible refine' r_bl ?_
  | with_reducible refine' r_ifS ?_
  | with_reducible refine' r_and ?_
  | with_reducible refine' r_or ?_
  | with_reducible refine' r_not ?_
  | with_reducible refine' r_andV ?_
  | with_reducible refine' r_orV ?_
  | with_reducible refine' r_notV ?_
  | with_reducible refine' r_ifE ?_
  | with_reducible refine' r_eqI ?_
  | with_reducible refine' r_neI ?_
  | with_reducible refine' r_eqS ?_
  | with_reducible refine' r_neS ?_
  | ((with_reducible refine' r_eq ?hv ?_); (case hv => exact rfl))
  | ((with_reducible refine' r_ne ?hv ?_); (case hv => exact rfl))
  | with_reducible refine' r_ret ?_
  | with_reducible refine' r_retN ?_
  | with_reducible refine' r_drop ?_
  | with_reducible refine' r_next ?_
  | with_reducible refine' r_cont ?_
  | with_reducible refine' r_brk ?_
  | with_reducible refine' r_asgS ?_
  | with_reducible refine' r_asgT ?_
  | with_reducible refine' r_gN ?_
  | with_reducible refine' r_gc ?_
  | with_reducible refine' r_gn ?_
  | with_reducible refine' r_tup ?_
  | with_reducible refine' r_lst ?_
  | with_reducible refine' r_sl ?_
  | with_reducible refine' r_nopart ?_
  | with_reducible refine' r_part ?_
  | with_reducible refine' r_partI ?_
  | with_reducible refine' r_un ?_
  | with_reducible refine' r_U ?_
  | with_reducible refine' r_int1 ?_
  | with_reducible refine' r_l1 ?_
  | with_reducible refine' r_l2 ?_
  | with_reducible refine' r_sign ?_
  | with_reducible refine' r_refl ?_
  | with_reducible refine' r_bm ?_
  | with_reducible refine' r_bm0 ?_
  | ((with_reducible refine' r_I ?hv ?_); (case hv => walk_at "cd"))
  | ((with_reducible refine' r_ixL ?hs ?he ?_); (case hs => walk_at "seq"); (case he => first | assumption | exact rfl))
  | ((with_reducible refine' r_ixT ?hs ?he ?_); (case hs => exact Wd.at (by assumption) (by walk_at "mem")); (case he => exact rfl))
  | ((with_reducible refine' r_lenL ?hs ?_); (case hs => walk_at "seq"))
  | ((with_reducible refine' r_lenT ?hs ?_); (case hs => exact Wd.at (by assumption) (by walk_at "mem")))
  | ((with_reducible refine' r_tyL ?hs ?_); (case hs => walk_at "seq"))
  | ((with_reducible refine' r_setW ?w ?hi ?own ?e ?hy ?hL ?_); (case w => assumption); (case hi => walk_at "hi"); (case own => walk_at "own"); (case e => exact rfl); (case hy => walk_at "set"); (case hL => walk_at "set"); intro _ _)
  | ((with_reducible refine' r_mkT ?w ?hs ?_); (case w => assumption); (case hs => walk_at "sz"); intro _ _ _ _ _)
  | ((with_reducible refine' r_mkL ?w ?hs ?_); (case w => assumption); (case hs => walk_at "sz"); intro _ _ _ _ _)
  | with_reducible refine' r_for ?_
  | with_reducible refine' r_iList ?_
  | with_reducible refine' r_iRng1 ?_
  | with_reducible refine' r_iStr ?_
  | with_reducible refine' r_iEs ?_
  | with_reducible refine' r_iEl ?_
  | with_reducible refine' r_StQ ?_
  | with_reducible refine' r_EsQ ?_
  | ((with_reducible refine' r_RgQ ?hv ?_); (case hv => first | omega | assumption))
  | ((with_reducible refine' r_LsQ ?hs ?_); (case hs => walk_at "seq"))
  | ((with_reducible refine' r_ElQ ?hs ?_); (case hs => walk_at "seq"))
  | with_reducible refine' r_lc ?_
  | with_reducible refine' r_dget ?_
  | with_reducible refine' r_din ?_
  | with_reducible refine' r_dnin ?_
  | with_reducible refine' r_dput ?_
  | with_reducible refine' r_dsetd ?_
  | with_reducible refine' r_fld ?_
  | with_reducible refine' r_fset ?_
  | ((with_reducible refine' r_dinS ?hs ?_); (case hs => exact Or.inl (Wd.at (by assumption) (by walk_at "mem"))))
  | ((with_reducible refine' r_dgetS ?hs ?e ?_); (case hs => exact Or.inl (Wd.at (by assumption) (by walk_at "mem"))); (case e => assumption))
  | ((with_reducible refine' r_ds0 ?hs ?_); (case hs => exact Wd.at (by assumption) (by walk_at "mem")))
  | ((with_reducible refine' r_dputS ?w ?hi ?own ?hl ?hL ?_); (case w => assumption); (case hi => walk_at "hi"); (case own => walk_at "own"); (case hl => first | assumption | walk_at "sz"); (case hL => walk_at "set"); intro _ _)
  | ((with_reducible refine' r_dnew ?w ?_); (case w => assumption); intro _ _ _ _ _)
  | ((with_reducible refine' r_lenD ?hs ?_); (case hs => exact Wd.at (by assumption) (by walk_at "mem")))
  | ((with_reducible refine' r_fldW ?hs ?c ?nf ?l ?_); (case hs => exact Wd.at (by assumption) (by walk_at "mem")); (case c => assumption); (case nf => assumption); (case l => exact rfl))
  | ((with_reducible refine' r_lenS ?hs ?_); (case hs => walk_at "sz"))
  | ((with_reducible refine' r_slS ?hs ?_); (case hs => walk_at "sz"))
  | ((with_reducible refine' r_cat ?hs ?_); (case hs => walk_at "sz"))
  | ((with_reducible refine' r_ixS ?hs ?e ?_); (case hs => walk_at "sz"); (case e => assumption))
  | ((with_reducible refine' r_appW ?w ?hi ?own ?e ?hL ?_); (case w => assumption); (case hi => walk_at "hi"); (case own => walk_at "own"); (case e => walk_at "sz"); (case hL => walk_at "set"); intro _ _)
  | ((with_reducible refine' r_viewS ?hz ?_); (case hz => omega))
  | ((with_reducible refine' r_wordW ?w ?ov ?_); (case w => assumption); (case ov => assumption); intro _ _)
  | ((with_reducible refine' r_nextS ?w ?hi ?hc ?own ?ne ?n0 ?n1 ?hL ?_); (case w => assumption); (case hi => walk_at "hi"); (case hc => walk_at "mem"); (case own => walk_at "own"); (case ne => assumption); (case n0 => omega); (case n1 => omega); (case hL => intro _ _ _; walk_at "set"); intro _ _ _ _ _ _ _ _)
  | with_reducible refine' r_ss ?_
  | with_reducible refine' ifNT ?_
  | with_reducible refine' ifNF ?_
  | with_reducible refine' ifT ?_
  | with_reducible refine' ifF ?_)
local macro_rules | `(tactic| walk_at "rd") => `(tactic| repeat walk_at "rd1")
local macro_rules | `(tactic| walk_at "br") => `(tactic| first | with_reducible refine' if2 (fun _ => ?_) (fun _ => ?_) | with_reducible refine' ifn2 (fun _ => ?_) (fun _ => ?_) | with_reducible refine' ifb (fun _ => ?_) (fun _ => ?_) | with_reducible refine' ifnb (fun _ => ?_) (fun _ => ?_))
local macro_rules | `(tactic| walk_at "rdb") => `(tactic| repeat' (first | walk_at "rd1" | walk_at "br"))
local macro_rules | `(tactic| walk_at "bro") => `(tactic| first | with_reducible refine if2 (fun h => (by exfalso; omega)) (fun _ => ?_) | with_reducible refine if2 (fun _ => ?_) (fun h => (by exfalso; omega)) | with_reducible refine ifn2 (fun h => (by exfalso; omega)) (fun _ => ?_) | with_reducible refine ifn2 (fun _ => ?_) (fun h => (by exfalso; omega)) | with_reducible refine if2 (fun _ => ?_) (fun h => absurd rfl h) | with_reducible refine ifn2 (fun h => absurd rfl h) (fun _ => ?_))
local macro_rules | `(tactic| walk_at "rdo") => `(tactic| repeat (first | walk_at "rd1" | walk_at "bro"))

section
variable {P : Program} {w : World} {K : PySem.W.Frag} {mg : Str → Option Value} {base : Heap} {ad : Ad}
/-! ### _law_due_image -/
abbrev s_law_due_image : Stmt := topS 26
theorem sc_law_due_image : FnScope ["table", "word", "size", "image", "at", "view"] ["table", "word", "size"] (defScope s_law_due_image) := ⟨rfl, rfl, rfl, by decide +kernel, rfl, by decide +kernel, by decide +kernel⟩
def spDue : Sp := fun vs H Q _ => ∃ (td : Addr) (kvs : List (Key × V)) (z : Str) (n : Int), vs = [.ref td, .str z, .int n] ∧ H td = some (.dK kvs) ∧ DictOk kvs ∧ z.length ≤ 1000 ∧ Q (optV (imgK kvs z n z.length)) H
theorem w_law_due_image (T : Txt K mg ad) (c_law_view : CalX P w K mg base L2.CX0 1 "_law_view" spView) {f : Addr} {fd : FuncData} (F : Fun K "_law_due_image" "_law_due_image" s_law_due_image f fd) : FnOk P w K mg base L2.CX0 2 f fd ["table", "word", "size"] spDue := by
  refine F.ok sc_law_due_image (fun vs H Q E h => ?_) (fun cdv A outer s H vs Q E hr h => ?_)
  · obtain ⟨td, kvs, z, n, rfl, _⟩ := h
    rfl
  · obtain ⟨td, kvs, z, n, rfl, h1, dk, z1, k⟩ := h
    have hu := hu_of hr
    have w0 : Wd H [] H [(td, .dK kvs)] := .here _ (by simp) (by simpa using h1)
    refine ⟨_, (pss_cons (ps_set (i := 3) sc_law_due_image.nd rfl (Or.inl rfl) pe_str)
    (pss_cons (ps_for PassesOwn.never rfl (pi_range1 (by rfl) T.n_range (pa_cons (pe_callB call_len_str (by rfl) T.n_len (by decide +kernel) (pa_cons (pv 1) pa_nil)) pa_nil)) (pg_name (i := 4) sc_law_due_image.nd rfl (Or.inl rfl))
      (pss_cons (ps_set (i := 5) sc_law_due_image.nd rfl (Or.inl rfl) (pe_cx c_law_view hr (by decide) rfl pass0 (pa_cons (pv 1) (pa_cons (pv 4) (pa_cons (pv 2) pa_nil)))))
      (pss_cons (ps_if (pt_cmp (pc_dnotin hu (pv 5) (pv 0))) (pss_one (ps_ret pe_non)) pss_nil)
      (pss_one (ps_set (i := 3) sc_law_due_image.nd rfl (Or.inl rfl) (pe_op op_add_str (pv 3) (pe_dget hu (pv 0) (pv 5) (fun _ _ => rfl))))))))
    (pss_one (ps_ret (pv 3))))), ?_⟩
    try simp only [cxK, cxKX]
    show (_ : TS) (_ : Ends) [some _, some _, some _, none, none, none] _
    walk_at "rd"
    refine f_rng (fun i σ H' => H' = H ∧ ∃ (y : Str) (u v : Option V), σ = [some (.ref td), some (.str z), some (.int n), some (.str y), u, v] ∧ imgK kvs z n i = some y ∧ y.length = i) ⟨rfl, "", none, none, rfl, rfl, rfl⟩ (fun i σ H' hi p => ?_) (fun σ H' p => ?_)
    · obtain ⟨rfl, y, u, v, rfl, hy, hl⟩ := p
      have hi' : i < z.length := by simpa using hi
      walk_at "rd"
      refine ifnb (fun hn => ?_) (fun hn => ?_)
      · walk_at "rd"
        have en : valV kvs (Sum.inr (vw z i n)) = none := by simpa using hn
        rw [imgK_none (imgK_stop en) z.length hi'] at k
        exact k
      · obtain ⟨v0, ev⟩ := Option.isSome_iff_exists.mp hn
        obtain ⟨d, rfl⟩ := dk _ _ ev
        have one : (⟨#[d]⟩ : Str).length = 1 := rfl
        walk_at "rd"
        exact ⟨rfl, _, _, _, rfl, imgK_go hy ev, by rw [len_app1, hl]⟩
    · obtain ⟨rfl, y, u, v, rfl, hy, hl⟩ := p
      walk_at "rd"
      have e : (z.length : Int).toNat = z.length := by simp
      rw [e] at hy
      rw [hy] at k
      exact k
/-! ### the class Turner -/
def tFs (ls im : Str) (n : Int) (td : Addr) : List (Str × V) := [("letters", .str ls), ("images", .str im), ("size", .int n), ("table", .ref td)]
abbrev s_tu_init : Stmt := inClass (topS 12) 0
abbrev s_tu_call : Stmt := inClass (topS 12) 1
abbrev s_Turner___init__ : Stmt := s_tu_init
abbrev s_Turner___call__ : Stmt := s_tu_call
theorem sc_Turner___init__ : FnScope ["self", "letters", "images", "size", "table"] ["self", "letters", "images", "size", "table"] (defScope s_tu_init) := ⟨rfl, rfl, rfl, by decide +kernel, rfl, by decide +kernel, by decide +kernel⟩
theorem sc_Turner___call__ : FnScope ["self", "word", "image", "at", "view"] ["self", "word"] (defScope s_tu_call) := ⟨rfl, rfl, rfl, by decide +kernel, rfl, by decide +kernel, by decide +kernel⟩
def spTInit (C : Addr) : Sp := fun vs H Q _ => ∃ (tp dx td : Addr) (ls im : Str) (n : Int) (kvs : List (Key × V)), vs = [.ref tp, .str ls, .str im, .int n, .ref td] ∧ H tp = some (.ins C dx []) ∧ H td = some (.dK kvs) ∧ GoodL ls ∧ GoodL im ∧
  ∀ (d : Addr) (H' : Hp), H d = none → Frm [tp] H H' → H' tp = some (.ins C dx (tFs ls im n d)) → H' d = some (.dK kvs) → Q .non H'
theorem w_tu_init (T : Txt K mg ad) (c_check_letters : CalX P w K mg base L2.CX0 1 "check_letters" spLetters) {f : Addr} {fd : FuncData} (F : Fun K "__init__" "Turner.__init__" s_tu_init f fd) : FnOk P w K mg base L2.CX0 2 f fd ["self", "letters", "images", "size", "table"] (spTInit ad.tu) := by
  refine F.ok sc_Turner___init__ (fun vs H Q E h => ?_) (fun cdv A outer s H vs Q E hr h => ?_)
  · obtain ⟨tp, dx, td, ls, im, n, kvs, rfl, _⟩ := h
    rfl
  · obtain ⟨tp, dx, td, ls, im, n, kvs, rfl, h1, h2, gl, gi, k⟩ := h
    have hu := hu_of hr
    have c1 := T.inT.cl
    have n1 := T.nLe
    have n2 := T.nIm
    have n3 := T.nSi
    have n4 := T.nTa
    have w0 : Wd H [tp] H [(tp, .ins ad.tu dx []), (td, .dK kvs)] := .here _ (by simpa using ne_of h1 h2 (by intro z; cases z)) (by
      intro p hp
      rcases List.mem_cons.mp hp with rfl | hp
      · exact h1
      · rcases List.mem_cons.mp hp with rfl | hp
        · exact h2
        · cases hp)
    refine ⟨_, (pss_cons (ps_expr (pe_cx c_check_letters hr (by decide) rfl pass0 (pa_cons (pv 1) pa_nil)))
    (pss_cons (ps_expr (pe_cx c_check_letters hr (by decide) rfl pass0 (pa_cons (pv 2) pa_nil)))
    (pss_cons (ps_fld (pv 0) (pv 1) rfl)
    (pss_cons (ps_fld (pv 0) (pv 2) rfl)
    (pss_cons (ps_fld (pv 0) (pv 3) rfl)
    (pss_one (ps_fld (pv 0) (pe_callTy call_dictD (by rfl) T.n_dict (by decide +kernel) (pa_cons (pv 4) pa_nil)) rfl))))))), ?_⟩
    try simp only [cxK, cxKX]
    show (_ : TS) (_ : Ends) [some _, some _, some _, some _, some _] _
    walk_at "rd"
    refine ⟨ls, rfl, gl, ?_⟩
    walk_at "rd"
    refine ⟨im, rfl, gi, ?_⟩
    walk_at "rd"
    refine r_fsetW (n := 0) w0 rfl (.inl (by simp)) c1 n1 (by decide) (putF_new [] rfl (by simp)) rfl (fun H1 w1 => ?_)
    walk_at "rd"
    refine r_fsetW (n := 0) w1 rfl (.inl (by simp)) c1 n2 (by show 1 < 1000; decide) (putF_new ["letters"] rfl (by decide +kernel)) rfl (fun H2 w2 => ?_)
    walk_at "rd"
    refine r_fsetW (n := 0) w2 rfl (.inl (by simp)) c1 n3 (by show 2 < 1000; decide) (putF_new ["letters", "images"] rfl (by decide +kernel)) rfl (fun H3 w3 => ?_)
    walk_at "rd"
    refine ⟨td, kvs, rfl, .inl (w3.at (by walk_at "mem")), fun d nd => ?_⟩
    have fd0 : H d = none := w3.free nd
    have w4 := w3.new (o := .dK kvs) nd
    walk_at "rd"
    refine r_fsetW (n := 1) w4 rfl (.inl (by simp)) c1 n4 (by show 3 < 1000; decide) (putF_new ["letters", "images", "size"] rfl (by decide +kernel)) rfl (fun H4 w5 => ?_)
    exact k d H4 fd0 w5.fr (w5.at (by walk_at "mem")) (w5.at (by walk_at "mem"))
def spTCall (C : Addr) : Sp := fun vs H Q _ => ∃ (tp dx td : Addr) (ls im z : Str) (n : Int) (kvs : List (Key × V)), vs = [.ref tp, .str z] ∧ H tp = some (.ins C dx (tFs ls im n td)) ∧ H td = some (.dK kvs) ∧ DictOk kvs ∧ z.length ≤ 1000 ∧ Over ls z ∧
  ∀ H', Frm [] H H' → Q (optV (imgK kvs z n z.length)) H'
theorem w_tu_call (T : Txt K mg ad) (c_check_word : CalX P w K mg base (L2.CX P w) 3 "check_word" (spWord ad.cw)) (c_view_at : CalX P w K mg base L2.CX0 1 "view_at" spView) {f : Addr} {fd : FuncData} (F : Fun K "__call__" "Turner.__call__" s_tu_call f fd) : FnOk P w K mg base L2.CX0 4 f fd ["self", "word"] (spTCall ad.tu) := by
  refine F.ok sc_Turner___call__ (fun vs H Q E h => ?_) (fun cdv A outer s H vs Q E hr h => ?_)
  · obtain ⟨tp, dx, td, ls, im, z, n, kvs, rfl, _⟩ := h
    rfl
  · obtain ⟨tp, dx, td, ls, im, z, n, kvs, rfl, h1, h2, dk, z1, ov, k⟩ := h
    have hu := hu_of hr
    have c1 := T.inT.cl
    have n1 := T.nLe
    have n2 := T.nIm
    have n3 := T.nSi
    have n4 := T.nTa
    have w0 : Wd H [] H [(tp, .ins ad.tu dx (tFs ls im n td)), (td, .dK kvs)] := .here _ (by simpa using ne_of h1 h2 (by intro z; cases z)) (by
      intro p hp
      rcases List.mem_cons.mp hp with rfl | hp
      · exact h1
      · rcases List.mem_cons.mp hp with rfl | hp
        · exact h2
        · cases hp)
    refine ⟨_, (pss_cons (ps_expr (pe_cx c_check_word hr (by decide) rfl passL (pa_cons (pe_fld (pv 0) rfl) (pa_cons (pv 1) pa_nil))))
    (pss_cons (ps_set (i := 2) sc_Turner___call__.nd rfl (Or.inl rfl) pe_str)
    (pss_cons (ps_for PassesOwn.never rfl (pi_range1 (by rfl) T.n_range (pa_cons (pe_callB call_len_str (by rfl) T.n_len (by decide +kernel) (pa_cons (pv 1) pa_nil)) pa_nil)) (pg_name (i := 3) sc_Turner___call__.nd rfl (Or.inl rfl))
      (pss_cons (ps_set (i := 4) sc_Turner___call__.nd rfl (Or.inl rfl) (pe_cx c_view_at hr (by decide) rfl pass0 (pa_cons (pv 1) (pa_cons (pv 3) (pa_cons (pe_fld (pv 0) rfl) pa_nil)))))
      (pss_cons (ps_if (pt_cmp (pc_dnotin hu (pv 4) (pe_fld (pv 0) rfl))) (pss_one (ps_ret pe_non)) pss_nil)
      (pss_one (ps_set (i := 2) sc_Turner___call__.nd rfl (Or.inl rfl) (pe_op op_add_str (pv 2) (pe_dget hu (pe_fld (pv 0) rfl) (pv 4) (fun _ _ => rfl))))))))
    (pss_one (ps_ret (pv 2)))))), ?_⟩
    try simp only [cxK, cxKX]
    show (_ : TS) (_ : Ends) [some _, some _, none, none, none] _
    walk_at "rd"
    rename_i H1 w1
    refine f_rng (fun i σ H' => Wd H [] H' [(tp, .ins ad.tu dx (tFs ls im n td)), (td, .dK kvs)] ∧ ∃ (y : Str) (u v : Option V), σ = [some (.ref tp), some (.str z), some (.str y), u, v] ∧ imgK kvs z n i = some y ∧ y.length = i) ⟨w1, "", none, none, rfl, rfl, rfl⟩ (fun i σ H' hi p => ?_) (fun σ H' p => ?_)
    · obtain ⟨w2, y, u, v, rfl, hy, hl⟩ := p
      have hi' : i < z.length := by simpa using hi
      walk_at "rd"
      refine ifnb (fun hn => ?_) (fun hn => ?_)
      · walk_at "rd"
        have en : valV kvs (Sum.inr (vw z i n)) = none := by simpa using hn
        have q := k H' w2.fr
        rw [imgK_none (imgK_stop en) z.length hi'] at q
        exact q
      · obtain ⟨v0, ev⟩ := Option.isSome_iff_exists.mp hn
        obtain ⟨d, rfl⟩ := dk _ _ ev
        have one : (⟨#[d]⟩ : Str).length = 1 := rfl
        walk_at "rd"
        exact ⟨w2, _, _, _, rfl, imgK_go hy ev, by rw [len_app1, hl]⟩
    · obtain ⟨w2, y, u, v, rfl, hy, hl⟩ := p
      walk_at "rd"
      have e : (z.length : Int).toNat = z.length := by simp
      rw [e] at hy
      have q := k H' w2.fr
      rw [hy] at q
      exact q
end
end TZ

namespace TZ
open PySem L2
/-! ### the pairs, and the first that is bad -/
def Tups (H : Hp) (ts : List Addr) (ps : List (Str × Str)) : Prop := ts.length = ps.length ∧ ∀ (i : Nat) (t : Addr) (p : Str × Str), ts[i]? = some t → ps[i]? = some p → H t = some (.tup [.str p.1, .str p.2])
theorem Tups.frm {ms : List Addr} {H H' : Hp} {ts : List Addr} {ps : List (Str × Str)} (h : Tups H ts ps) (f : Frm ms H H') : Tups H' ts ps := ⟨h.1, fun i t p a b => f.tup _ _ (h.2 i t p a b)⟩
theorem Tups.get {H : Hp} {ts : List Addr} {ps : List (Str × Str)} {i : Nat} {x : V} (h : Tups H ts ps) (hx : (ts.map V.ref)[i]? = some x) : ∃ (t : Addr) (p : Str × Str), x = .ref t ∧ ts[i]? = some t ∧ ps[i]? = some p ∧ H t = some (.tup [.str p.1, .str p.2]) := by
  rw [List.getElem?_map] at hx
  cases e : ts[i]? with
  | none => rw [e] at hx; cases hx
  | some t =>
    rw [e] at hx
    cases hx
    have hi : i < ps.length := by rw [← h.1]; exact (List.getElem?_eq_some_iff.mp e).1
    exact ⟨t, ps[i], rfl, rfl, by simp [hi], h.2 i t _ e (by simp [hi])⟩
def Small (ps : List (Str × Str)) : Prop := ps.length ≤ 100 ∧ ∀ p ∈ ps, p.1.length ≤ 100 ∧ p.2.length ≤ 100
inductive Bad where
  | word (w : Str) (i : Nat)
  | text (k : Nat)
/-- the pair number k is bad so -/
def BadP (ls im : Str) (k : Nat) (p : Str × Str) : Bad → Prop
  | .word w i => (w = p.1 ∧ BadAt ls p.1 i) ∨ (Over ls p.1 ∧ w = p.2 ∧ BadAt im p.2 i)
  | .text j => j = k ∧ Over ls p.1 ∧ Over im p.2 ∧ p.1.length ≠ p.2.length
def FineP (ls im : Str) (p : Str × Str) : Prop := Over ls p.1 ∧ Over im p.2 ∧ p.1.length = p.2.length
def FirstBad (ls im : Str) (ps : List (Str × Str)) (b : Bad) : Prop := ∃ (k : Nat) (p : Str × Str), ps[k]? = some p ∧ BadP ls im k p b ∧ ∀ (j : Nat) (q : Str × Str), j < k → ps[j]? = some q → FineP ls im q
def AllFine (ls im : Str) (ps : List (Str × Str)) : Prop := ∀ (j : Nat) (q : Str × Str), ps[j]? = some q → FineP ls im q
def Bad.obj : Bad → HO
  | .word w i => errW w i
  | .text k => .xd [("line", .int (k : Nat))]
def Bad.cls (ad : Ad) : Bad → Value
  | .word _ _ => .ref ad.cw
  | .text _ => .ref ad.ct
/-- what the errors of check_pairs and fit_turner promise -/
def Raises2 (ad : Ad) (ls im : Str) (ps : List (Str × Str)) (H : Hp) (E : XK) : Prop := ∀ (b : Bad), FirstBad ls im ps b → ∀ (d : Addr) (H' : Hp), Frm [] H H' → H d = none → H' d = some b.obj → E (b.cls ad) (some d) H'
local macro_rules | `(tactic| walk_at "tp") => `(tactic| first | exact Wd.at (by assumption) (by walk_at "mem") | exact Wd.tup (by assumption) (by assumption) | assumption)
local macro_rules | `(tactic| walk_at "cd") => `(tactic| first | omega | exact ⟨by decide, by decide, by decide⟩ | exact Or.inl ⟨by decide, by decide⟩ | exact Or.inr ⟨by decide, by decide⟩ | exact Or.inl ⟨by omega, by omega⟩ | exact Or.inr ⟨by omega, by omega⟩ | exact ⟨by omega, by omega⟩)
local macro_rules | `(tactic| walk_at "mem") => `(tactic| ((repeat (first | exact List.Mem.head _ | apply List.Mem.tail)); done))
local macro_rules | `(tactic| walk_at "set") => `(tactic| (dsimp only [List.set]; try exact rfl))
local macro_rules | `(tactic| walk_at "seq") => `(tactic| exact sqL (Wd.at (by assumption) (by walk_at "mem")))
local macro_rules | `(tactic| walk_at "own") => `(tactic| first | exact Or.inl (by walk_at "mem") | exact Or.inr (by assumption))
local macro_rules | `(tactic| walk_at "hi") => `(tactic| first | exact (rfl : (_ : List (Addr × HO))[0]? = _) | exact (rfl : (_ : List (Addr × HO))[1]? = _) | exact (rfl : (_ : List (Addr × HO))[2]? = _) | exact (rfl : (_ : List (Addr × HO))[3]? = _) | exact (rfl : (_ : List (Addr × HO))[4]? = _) | exact (rfl : (_ : List (Addr × HO))[5]? = _) | exact (rfl : (_ : List (Addr × HO))[6]? = _) | exact (rfl : (_ : List (Addr × HO))[7]? = _) | exact (rfl : (_ : List (Addr × HO))[8]? = _) | exact (rfl : (_ : List (Addr × HO))[9]? = _))
local macro_rules | `(tactic| walk_at "sz") => `(tactic| first | (show _ ≤ sizeLine; decide) | (refine sz_ok ?_; first | omega | (simp only [List.length_cons, List.length_nil, List.length_map, PySem.Str.length_append] <;> omega) | (simp; done)) | (refine TZ.sz_lt ?_; first | omega | (simp only [List.length_cons, List.length_nil, List.length_map, List.length_append, PySem.Str.length_append] <;> omega) | (simp; done)))
local macro_rules | `(tactic| walk_at "rd1") => `(tactic| first
  | with_reducible refine' r_seq ?_
  | ((with_reducible refine' r_var ?hv ?_); (case hv => exact rfl))
  | with_reducible refine' r_c ?_
  | with_reducible refine' r_op ?_
  | with_reducible refine' r_I0 ?_
  | ((with_reducible refine' r_set ?hv ?_); (case hv => walk_at "set"))
  | with_reducible refine' r_asg ?_
  | with_reducible refine' r_cons ?_
  | with_reducible refine' r_nil ?_
  | with_reducible refine' r_cb ?_
  | with_reducible refine' r_call0 ?_
  | with_reducible refine' r_test ?_
  | with_reducible refine' r_B ?_
  | with_reducible refine' r_bl ?_
  | with_reducible refine' r_ifS ?_
  | with_reducible refine' r_and ?_
  | with_reducible refine' r_or ?_
  | with_reducible refine' r_not ?_
  | with_reducible refine' r_andV ?_
  | with_reducible refine' r_orV ?_
  | with_reducible refine' r_notV ?_
  | with_reducible refine' r_ifE ?_
  | with_reducible refine' r_eqI ?_
  | with_reducible refine' r_neI ?_
  | with_reducible refine' r_eqS ?_
  | with_reducible refine' r_neS ?_
  | ((with_reducible refine' r_eq ?hv ?_); (case hv => exact rfl))
  | ((with_reducible refine' r_ne ?hv ?_); (case hv => exact rfl))
  | with_reducible refine' r_ret ?_
  | with_reducible refine' r_retN ?_
  | with_reducible refine' r_drop ?_
  | with_reducible refine' r_next ?_
  | with_reducible refine' r_cont ?_
  | with_reducible refine' r_brk ?_
  | with_reducible refine' r_asgS ?_
  | with_reducible refine' r_asgT ?_
  | with_reducible refine' r_gN ?_
  | with_reducible refine' r_gc ?_
  | with_reducible refine' r_gn ?_
  | with_reducible refine' r_tup ?_
  | with_reducible refine' r_lst ?_
  | with_reducible refine' r_sl ?_
  | with_reducible refine' r_nopart ?_
  | with_reducible refine' r_part ?_
  | with_reducible refine' r_partI ?_
  | with_reducible refine' r_un ?_
  | with_reducible refine' r_U ?_
  | with_reducible refine' r_int1 ?_
  | with_reducible refine' r_l1 ?_
  | with_reducible refine' r_l2 ?_
  | with_reducible refine' r_sign ?_
  | with_reducible refine' r_refl ?_
  | with_reducible refine' r_bm ?_
  | with_reducible refine' r_bm0 ?_
  | ((with_reducible refine' r_I ?hv ?_); (case hv => walk_at "cd"))
  | ((with_reducible refine' r_ixL ?hs ?he ?_); (case hs => walk_at "seq"); (case he => first | assumption | exact rfl))
  | ((with_reducible refine' r_ixT ?hs ?he ?_); (case hs => walk_at "tp"); (case he => exact rfl))
  | ((with_reducible refine' r_lenL ?hs ?_); (case hs => walk_at "seq"))
  | ((with_reducible refine' r_lenT ?hs ?_); (case hs => walk_at "tp"))
  | ((with_reducible refine' r_tyL ?hs ?_); (case hs => walk_at "seq"))
  | ((with_reducible refine' r_setW ?w ?hi ?own ?e ?hy ?hL ?_); (case w => assumption); (case hi => walk_at "hi"); (case own => walk_at "own"); (case e => exact rfl); (case hy => walk_at "set"); (case hL => walk_at "set"); intro _ _)
  | ((with_reducible refine' r_mkT ?w ?hs ?_); (case w => assumption); (case hs => walk_at "sz"); intro _ _ _ _ _)
  | ((with_reducible refine' r_mkL ?w ?hs ?_); (case w => assumption); (case hs => walk_at "sz"); intro _ _ _ _ _)
  | with_reducible refine' r_for ?_
  | with_reducible refine' r_iList ?_
  | with_reducible refine' r_iRng1 ?_
  | with_reducible refine' r_iStr ?_
  | with_reducible refine' r_iEs ?_
  | with_reducible refine' r_iEl ?_
  | with_reducible refine' r_StQ ?_
  | with_reducible refine' r_EsQ ?_
  | ((with_reducible refine' r_RgQ ?hv ?_); (case hv => first | omega | assumption))
  | ((with_reducible refine' r_LsQ ?hs ?_); (case hs => walk_at "seq"))
  | ((with_reducible refine' r_ElQ ?hs ?_); (case hs => walk_at "seq"))
  | with_reducible refine' r_lc ?_
  | with_reducible refine' r_make ?_
  | with_reducible refine' r_dget ?_
  | with_reducible refine' r_din ?_
  | with_reducible refine' r_dnin ?_
  | with_reducible refine' r_dput ?_
  | with_reducible refine' r_dsetd ?_
  | with_reducible refine' r_fld ?_
  | with_reducible refine' r_fset ?_
  | ((with_reducible refine' r_dinS ?hs ?_); (case hs => exact Or.inl (Wd.at (by assumption) (by walk_at "mem"))))
  | ((with_reducible refine' r_dgetS ?hs ?e ?_); (case hs => exact Or.inl (Wd.at (by assumption) (by walk_at "mem"))); (case e => assumption))
  | ((with_reducible refine' r_ds0 ?hs ?_); (case hs => exact Wd.at (by assumption) (by walk_at "mem")))
  | ((with_reducible refine' r_dputS ?w ?hi ?own ?hl ?hL ?_); (case w => assumption); (case hi => walk_at "hi"); (case own => walk_at "own"); (case hl => first | assumption | walk_at "sz"); (case hL => walk_at "set"); intro _ _)
  | ((with_reducible refine' r_dnew ?w ?_); (case w => assumption); intro _ _ _ _ _)
  | ((with_reducible refine' r_lenD ?hs ?_); (case hs => exact Wd.at (by assumption) (by walk_at "mem")))
  | ((with_reducible refine' r_fldW ?hs ?c ?nf ?l ?_); (case hs => exact Wd.at (by assumption) (by walk_at "mem")); (case c => assumption); (case nf => assumption); (case l => exact rfl))
  | ((with_reducible refine' r_lenS ?hs ?_); (case hs => walk_at "sz"))
  | ((with_reducible refine' r_slS ?hs ?_); (case hs => walk_at "sz"))
  | ((with_reducible refine' r_cat ?hs ?_); (case hs => walk_at "sz"))
  | ((with_reducible refine' r_ixS ?hs ?e ?_); (case hs => walk_at "sz"); (case e => assumption))
  | ((with_reducible refine' r_appW ?w ?hi ?own ?e ?hL ?_); (case w => assumption); (case hi => walk_at "hi"); (case own => walk_at "own"); (case e => walk_at "sz"); (case hL => walk_at "set"); intro _ _)
  | ((with_reducible refine' r_viewS ?hz ?_); (case hz => omega))
  | ((with_reducible refine' r_wordW ?w ?ov ?_); (case w => assumption); (case ov => assumption); intro _ _)
  | ((with_reducible refine' r_nextS ?w ?hi ?hc ?own ?ne ?n0 ?n1 ?hL ?_); (case w => assumption); (case hi => walk_at "hi"); (case hc => walk_at "mem"); (case own => walk_at "own"); (case ne => assumption); (case n0 => omega); (case n1 => omega); (case hL => intro _ _ _; walk_at "set"); intro _ _ _ _ _ _ _ _)
  | ((with_reducible refine' r_gT ?h ?e ?_); (case h => walk_at "tp"); (case e => exact rfl))
  | with_reducible refine' r_ss ?_
  | with_reducible refine' ifNT ?_
  | with_reducible refine' ifNF ?_
  | with_reducible refine' ifT ?_
  | with_reducible refine' ifF ?_)
local macro_rules | `(tactic| walk_at "rd") => `(tactic| repeat walk_at "rd1")
local macro_rules | `(tactic| walk_at "br") => `(tactic| first | with_reducible refine' if2 (fun _ => ?_) (fun _ => ?_) | with_reducible refine' ifn2 (fun _ => ?_) (fun _ => ?_) | with_reducible refine' ifb (fun _ => ?_) (fun _ => ?_) | with_reducible refine' ifnb (fun _ => ?_) (fun _ => ?_))
local macro_rules | `(tactic| walk_at "rdb") => `(tactic| repeat' (first | walk_at "rd1" | walk_at "br"))
local macro_rules | `(tactic| walk_at "bro") => `(tactic| first | with_reducible refine if2 (fun h => (by exfalso; omega)) (fun _ => ?_) | with_reducible refine if2 (fun _ => ?_) (fun h => (by exfalso; omega)) | with_reducible refine ifn2 (fun h => (by exfalso; omega)) (fun _ => ?_) | with_reducible refine ifn2 (fun _ => ?_) (fun h => (by exfalso; omega)) | with_reducible refine if2 (fun _ => ?_) (fun h => absurd rfl h) | with_reducible refine ifn2 (fun h => absurd rfl h) (fun _ => ?_))
local macro_rules | `(tactic| walk_at "rdo") => `(tactic| repeat (first | walk_at "rd1" | walk_at "bro"))

section
variable {P : Program} {w : World} {K : PySem.W.Frag} {mg : Str → Option Value} {base : Heap} {ad : Ad}
abbrev s_check_pairs : Stmt := topS 13
theorem sc_check_pairs : FnScope ["letters", "images", "pairs", "number", "pair"] ["letters", "images", "pairs"] (defScope s_check_pairs) := ⟨rfl, rfl, rfl, by decide +kernel, rfl, by decide +kernel, by decide +kernel⟩
def spPairs (ad : Ad) : Sp := fun vs H Q E => ∃ (pl : Addr) (ts : List Addr) (ps : List (Str × Str)) (ls im : Str), vs = [.str ls, .str im, .ref pl] ∧ GoodL ls ∧ GoodL im ∧ H pl = some (.lst (ts.map V.ref)) ∧ Tups H ts ps ∧ Small ps ∧
  (AllFine ls im ps → ∀ H', Frm [] H H' → Q .non H') ∧ Raises2 ad ls im ps H E
theorem w_check_pairs (T : Txt K mg ad) (c_BadText : Raiser P w K mg base "BadText" ad.ct (spErr1 ad.ct "line")) (c_check_letters : CalX P w K mg base L2.CX0 1 "check_letters" spLetters) (c_check_word : CalX P w K mg base (L2.CX P w) 3 "check_word" (spWord ad.cw))
    {f : Addr} {fd : FuncData} (F : Fun K "check_pairs" "check_pairs" s_check_pairs f fd) : FnOk P w K mg base (L2.CX P w) 4 f fd ["letters", "images", "pairs"] (spPairs ad) := by
  refine F.okX sc_check_pairs (fun vs H Q E h => ?_) (fun cdv A outer s H vs Q E hr h => ?_)
  · obtain ⟨pl, ts, ps, ls, im, rfl, _⟩ := h
    rfl
  · obtain ⟨pl, ts, ps, ls, im, rfl, gl, gi, h1, tu, sm, k1, k2⟩ := h
    have w0 : Wd H [] H [(pl, .lst (ts.map V.ref))] := .here _ (by simp) (by simpa using h1)
    refine ⟨_, (pss_cons (ps_expr (pe_cx c_check_letters hr (by decide) rfl pass0 (pa_cons (pv 0) pa_nil)))
    (pss_cons (ps_expr (pe_cx c_check_letters hr (by decide) rfl pass0 (pa_cons (pv 1) pa_nil)))
    (pss_one (ps_for (passes_of rfl) rfl (pi_enum (by rfl) T.n_enumerate (pa_cons (pv 2) pa_nil)) (pg_tup rfl (pgs_cons (pg_name (i := 3) sc_check_pairs.nd rfl (Or.inl rfl)) (pgs_cons (pg_name (i := 4) sc_check_pairs.nd rfl (Or.inl rfl)) pgs_nil)))
      (pss_cons (ps_expr (pe_cx c_check_word hr (by decide) rfl (passes_call (takes_of rfl rfl rfl rfl) (fun _ _ _ _ h => h)) (pa_cons (pv 0) (pa_cons (pe_ix ix_tup (pv 4) pe_int (fun _ _ => rfl)) pa_nil))))
      (pss_cons (ps_expr (pe_cx c_check_word hr (by decide) rfl (passes_call (takes_of rfl rfl rfl rfl) (fun _ _ _ _ h => h)) (pa_cons (pv 1) (pa_cons (pe_ix ix_tup (pv 4) pe_int (fun _ _ => rfl)) pa_nil))))
      (pss_one (ps_if (pt_cmpR op_ne (pe_callB call_len_str (by rfl) T.n_len (by decide +kernel) (pa_cons (pe_ix ix_tup (pv 4) pe_int (fun _ _ => rfl)) pa_nil)) (pe_callB call_len_str (by rfl) T.n_len (by decide +kernel) (pa_cons (pe_ix ix_tup (pv 4) pe_int (fun _ _ => rfl)) pa_nil)) (nomark _)) (pss_one (ps_raise rfl (takes_of rfl rfl rfl rfl) (pmk_err c_BadText hr (by decide) rfl (pa_cons (pv 3) pa_nil)))) pss_nil)))))))), ?_⟩
    try simp only [cxK, cxKX]
    show (_ : TS) (_ : Ends) [some _, some _, some _, none, none] _
    walk_at "rd"
    refine ⟨ls, rfl, gl, ?_⟩
    walk_at "rd"
    refine ⟨im, rfl, gi, ?_⟩
    walk_at "rd"
    refine f_enumL (xs := ts.map V.ref) (fun i σ H' => Wd H [] H' [(pl, .lst (ts.map V.ref))] ∧ (∀ (j : Nat) (q : Str × Str), j < i → ps[j]? = some q → FineP ls im q) ∧ ∃ x y : Option V, σ = [some (.str ls), some (.str im), some (.ref pl), x, y])
      ⟨w0, fun j q h => absurd h (Nat.not_lt_zero _), none, none, rfl⟩ (fun i σ H' _ p => sqL (p.1.at (List.Mem.head _))) (fun i x t σ H' hx p nT => ?_) (fun σ H' p => ?_)
    · obtain ⟨w1, ok, u, v, rfl⟩ := p
      obtain ⟨ta, p, rfl, hta, hp, htp⟩ := tu.get hx
      have hpm : p ∈ ps := List.mem_of_getElem? hp
      have s1 := (sm.2 p hpm).1
      have s2 := (sm.2 p hpm).2
      have w2 := (w1.new (o := .tup [.int (i : Nat), .ref ta]) nT)
      refine r_gT (n := 2) (xs := [.int (i : Nat), .ref ta]) upd_same rfl ?_
      generalize upd H' t (.tup [.int (i : Nat), .ref ta]) = H2 at w2 ⊢
      walk_at "rd"
      refine ⟨ls, p.1, rfl, fun o1 H3 f3 => ?_, fun b hb d H3 f3 nd hd => k2 (.word p.1 b) ⟨i, p, hp, .inl ⟨rfl, hb⟩, ok⟩ d H3 (w2.fr.trans f3) (w2.free nd) hd⟩
      have w3 := w2.call0 f3
      walk_at "rd"
      refine ⟨im, p.2, rfl, fun o2 H4 f4 => ?_, fun b hb d H4 f4 nd hd => k2 (.word p.2 b) ⟨i, p, hp, .inr ⟨o1, rfl, hb⟩, ok⟩ d H4 (w3.fr.trans f4) (w3.free nd) hd⟩
      have w4 := w3.call0 f4
      walk_at "rd"
      refine ifn2 (fun hn => ?_) (fun he => ?_)
      · have hl : p.1.length ≠ p.2.length := fun z => hn (by rw [z])
        refine mk_err1 ?_ mono_1
        walk_at "rd"
        exact ⟨_, rfl, fun d nd => k2 (.text i) ⟨i, p, hp, ⟨rfl, o1, o2, hl⟩, ok⟩ d _ (w4.fr.trans (Frm.new nd)) (w4.free nd) upd_same⟩
      · have hl : p.1.length = p.2.length := by
          omega
        walk_at "rd"
        refine ⟨w4.drop, fun j q hj hq => ?_, _, _, rfl⟩
        by_cases e : j = i
        · subst e
          rw [hp] at hq
          cases hq
          exact ⟨o1, o2, hl⟩
        · exact ok j q (by omega) hq
    · obtain ⟨w1, ok, u, v, rfl⟩ := p
      refine k1 (fun j q hq => ok j q ?_ hq) H' w1.fr
      have := (List.getElem?_eq_some_iff.mp hq).1
      rw [List.length_map, tu.1]
      exact this
end
end TZ

namespace TZ
open PySem L2
/-! ### two places with one view and different letters -/
def ClashAt (ps : List (Str × Str)) (n : Int) (k a k' a' : Nat) : Prop := ∃ (p q : Str × Str) (c d : Nat), ps[k]? = some p ∧ ps[k']? = some q ∧ a < p.1.length ∧ a' < q.1.length ∧ vw p.1 a n = vw q.1 a' n ∧ p.2.cps[a]? = some c ∧ q.2.cps[a']? = some d ∧ c ≠ d
def NoClash (ps : List (Str × Str)) (n : Int) : Prop := ∀ k a k' a', ¬ ClashAt ps n k a k' a'
def Even (ps : List (Str × Str)) : Prop := ∀ p ∈ ps, p.1.length = p.2.length
/-- the view s stands in the dict with a place whose letter is c -/
def Ent (H : Hp) (ps : List (Str × Str)) (n : Int) (kvs : List (Key × V)) (s : Str) (c : Nat) : Prop := ∃ (t : Addr) (k0 a0 : Nat) (p0 : Str × Str), valV kvs (Sum.inr s) = some (.ref t) ∧ H t = some (.tup [.int k0, .int a0]) ∧ ps[k0]? = some p0 ∧ a0 < p0.1.length ∧ p0.2.cps[a0]? = some c ∧ vw p0.1 a0 n = s
theorem Ent.frm {ms : List Addr} {H H' : Hp} {ps : List (Str × Str)} {n : Int} {kvs : List (Key × V)} {s : Str} {c : Nat} (h : Ent H ps n kvs s c) (f : Frm ms H H') : Ent H' ps n kvs s c := by
  obtain ⟨t, k0, a0, p0, e, ht, r⟩ := h
  exact ⟨t, k0, a0, p0, e, f.tup _ _ ht, r⟩
theorem Ent.put {H : Hp} {ps : List (Str × Str)} {n : Int} {kvs : List (Key × V)} {s s0 : Str} {c : Nat} {v : V} (h : Ent H ps n kvs s c) (e0 : valV kvs (Sum.inr s0) = none) : Ent H ps n (putK kvs (Sum.inr s0) v) s c := by
  obtain ⟨t, k0, a0, p0, e, r⟩ := h
  refine ⟨t, k0, a0, p0, ?_, r⟩
  rw [valV_put, if_neg, e]
  intro z
  rw [z, e0] at e
  cases e
theorem Ent.one {H : Hp} {ps : List (Str × Str)} {n : Int} {kvs : List (Key × V)} {s : Str} {c d : Nat} (h : Ent H ps n kvs s c) (g : Ent H ps n kvs s d) : c = d := by
  obtain ⟨t, k0, a0, p0, e, ht, hp, _, hc, _⟩ := h
  obtain ⟨t', k1, a1, p1, e', ht', hp', _, hd, _⟩ := g
  rw [e] at e'
  cases e'
  rw [ht] at ht'
  have z := HO.tup.inj (Option.some.inj ht')
  have z1 : (k0 : Int) = k1 := V.int.inj (List.cons.inj z).1
  have z2 : (a0 : Int) = a1 := V.int.inj (List.cons.inj (List.cons.inj z).2).1
  have z3 : k0 = k1 := by omega
  have z4 : a0 = a1 := by omega
  subst z3 z4
  rw [hp] at hp'
  cases hp'
  rw [hc] at hd
  exact Option.some.inj hd
/-- every place ahead of (i, at) has its entry -/
def SeenTo (H : Hp) (ps : List (Str × Str)) (n : Int) (kvs : List (Key × V)) (i j : Nat) : Prop := ∀ (k a c : Nat) (p : Str × Str), k < i ∨ (k = i ∧ a < j) → ps[k]? = some p → a < p.1.length → p.2.cps[a]? = some c → Ent H ps n kvs (vw p.1 a n) c
def Known (H : Hp) (ps : List (Str × Str)) (n : Int) (kvs : List (Key × V)) : Prop := ∀ (s : Str) (v : V), valV kvs (Sum.inr s) = some v → ∃ c, Ent H ps n kvs s c
theorem noclash_of {H : Hp} {ps : List (Str × Str)} {n : Int} {kvs : List (Key × V)} (h : SeenTo H ps n kvs ps.length 0) : NoClash ps n := by
  rintro k a k' a' ⟨p, q, c, d, hp, hq, ha, ha', hv, hc, hd, ne⟩
  have e1 := h k a c p (.inl (List.getElem?_eq_some_iff.mp hp).1) hp ha hc
  have e2 := h k' a' d q (.inl (List.getElem?_eq_some_iff.mp hq).1) hq ha' hd
  rw [← hv] at e2
  exact ne (e1.one e2)
local macro_rules | `(tactic| walk_at "tp") => `(tactic| first | exact Wd.at (by assumption) (by walk_at "mem") | exact Wd.tup (by assumption) (by assumption) | assumption)
local macro_rules | `(tactic| walk_at "cd") => `(tactic| first | omega | exact ⟨by decide, by decide, by decide⟩ | exact Or.inl ⟨by decide, by decide⟩ | exact Or.inr ⟨by decide, by decide⟩ | exact Or.inl ⟨by omega, by omega⟩ | exact Or.inr ⟨by omega, by omega⟩ | exact ⟨by omega, by omega⟩)
local macro_rules | `(tactic| walk_at "mem") => `(tactic| ((repeat (first | exact List.Mem.head _ | apply List.Mem.tail)); done))
local macro_rules | `(tactic| walk_at "set") => `(tactic| (dsimp only [List.set]; try exact rfl))
local macro_rules | `(tactic| walk_at "seq") => `(tactic| exact sqL (Wd.at (by assumption) (by walk_at "mem")))
local macro_rules | `(tactic| walk_at "own") => `(tactic| first | exact Or.inl (by walk_at "mem") | exact Or.inr (by assumption))
local macro_rules | `(tactic| walk_at "hi") => `(tactic| first | exact (rfl : (_ : List (Addr × HO))[0]? = _) | exact (rfl : (_ : List (Addr × HO))[1]? = _) | exact (rfl : (_ : List (Addr × HO))[2]? = _) | exact (rfl : (_ : List (Addr × HO))[3]? = _) | exact (rfl : (_ : List (Addr × HO))[4]? = _) | exact (rfl : (_ : List (Addr × HO))[5]? = _) | exact (rfl : (_ : List (Addr × HO))[6]? = _) | exact (rfl : (_ : List (Addr × HO))[7]? = _) | exact (rfl : (_ : List (Addr × HO))[8]? = _) | exact (rfl : (_ : List (Addr × HO))[9]? = _))
local macro_rules | `(tactic| walk_at "sz") => `(tactic| first | (show _ ≤ sizeLine; decide) | (refine sz_ok ?_; first | omega | (simp only [List.length_cons, List.length_nil, List.length_map, PySem.Str.length_append] <;> omega) | (simp; done)) | (refine TZ.sz_lt ?_; first | omega | (simp only [List.length_cons, List.length_nil, List.length_map, List.length_append, PySem.Str.length_append] <;> omega) | (simp; done)))
local macro_rules | `(tactic| walk_at "rd1") => `(tactic| first
  | with_reducible refine' r_seq ?_
  | ((with_reducible refine' r_var ?hv ?_); (case hv => exact rfl))
  | with_reducible refine' r_c ?_
  | with_reducible refine' r_op ?_
  | with_reducible refine' r_I0 ?_
  | ((with_reducible refine' r_set ?hv ?_); (case hv => walk_at "set"))
  | with_reducible refine' r_asg ?_
  | with_reducible refine' r_cons ?_
  | with_reducible refine' r_nil ?_
  | with_reducible refine' r_cb ?_
  | with_reducible refine' r_call0 ?_
  | with_reducible refine' r_test ?_
  | with_reducible refine' r_B ?_
  | with_reducible refine' r_bl ?_
  | with_reducible refine' r_ifS ?_
  | with_reducible refine' r_and ?_
  | with_reducible refine' r_or ?_
  | with_reducible refine' r_not ?_
  | with_reducible refine' r_andV ?_
  | with_reducible refine' r_orV ?_
  | with_reducible refine' r_notV ?_
  | with_reducible refine' r_ifE ?_
  | with_reducible refine' r_eqI ?_
  | with_reducible refine' r_neI ?_
  | with_reducible refine' r_eqS ?_
  | with_reducible refine' r_neS ?_
  | ((with_reducible refine' r_eq ?hv ?_); (case hv => exact rfl))
  | ((with_reducible refine' r_ne ?hv ?_); (case hv => exact rfl))
  | with_reducible refine' r_ret ?_
  | with_reducible refine' r_retN ?_
  | with_reducible refine' r_drop ?_
  | with_reducible refine' r_next ?_
  | with_reducible refine' r_cont ?_
  | with_reducible refine' r_brk ?_
  | with_reducible refine' r_asgS ?_
  | with_reducible refine' r_asgT ?_
  | with_reducible refine' r_gN ?_
  | with_reducible refine' r_gc ?_
  | with_reducible refine' r_gn ?_
  | with_reducible refine' r_tup ?_
  | with_reducible refine' r_lst ?_
  | with_reducible refine' r_sl ?_
  | with_reducible refine' r_nopart ?_
  | with_reducible refine' r_part ?_
  | with_reducible refine' r_partI ?_
  | with_reducible refine' r_un ?_
  | with_reducible refine' r_U ?_
  | with_reducible refine' r_int1 ?_
  | with_reducible refine' r_l1 ?_
  | with_reducible refine' r_l2 ?_
  | with_reducible refine' r_sign ?_
  | with_reducible refine' r_refl ?_
  | with_reducible refine' r_bm ?_
  | with_reducible refine' r_bm0 ?_
  | ((with_reducible refine' r_I ?hv ?_); (case hv => walk_at "cd"))
  | ((with_reducible refine' r_ixL ?hs ?he ?_); (case hs => walk_at "seq"); (case he => first | assumption | exact rfl))
  | ((with_reducible refine' r_ixT ?hs ?he ?_); (case hs => walk_at "tp"); (case he => exact rfl))
  | ((with_reducible refine' r_lenL ?hs ?_); (case hs => walk_at "seq"))
  | ((with_reducible refine' r_lenT ?hs ?_); (case hs => walk_at "tp"))
  | ((with_reducible refine' r_tyL ?hs ?_); (case hs => walk_at "seq"))
  | ((with_reducible refine' r_setW ?w ?hi ?own ?e ?hy ?hL ?_); (case w => assumption); (case hi => walk_at "hi"); (case own => walk_at "own"); (case e => exact rfl); (case hy => walk_at "set"); (case hL => walk_at "set"); intro _ _)
  | ((with_reducible refine' r_mkT ?w ?hs ?_); (case w => assumption); (case hs => walk_at "sz"); intro _ _ _ _ _)
  | ((with_reducible refine' r_mkL ?w ?hs ?_); (case w => assumption); (case hs => walk_at "sz"); intro _ _ _ _ _)
  | with_reducible refine' r_for ?_
  | with_reducible refine' r_iList ?_
  | with_reducible refine' r_iRng1 ?_
  | with_reducible refine' r_iStr ?_
  | with_reducible refine' r_iEs ?_
  | with_reducible refine' r_iEl ?_
  | with_reducible refine' r_StQ ?_
  | with_reducible refine' r_EsQ ?_
  | ((with_reducible refine' r_RgQ ?hv ?_); (case hv => first | omega | assumption))
  | ((with_reducible refine' r_LsQ ?hs ?_); (case hs => walk_at "seq"))
  | ((with_reducible refine' r_ElQ ?hs ?_); (case hs => walk_at "seq"))
  | with_reducible refine' r_lc ?_
  | with_reducible refine' r_make ?_
  | with_reducible refine' r_dget ?_
  | with_reducible refine' r_din ?_
  | with_reducible refine' r_dnin ?_
  | with_reducible refine' r_dput ?_
  | with_reducible refine' r_dsetd ?_
  | with_reducible refine' r_fld ?_
  | with_reducible refine' r_fset ?_
  | ((with_reducible refine' r_dinS ?hs ?_); (case hs => exact Or.inl (Wd.at (by assumption) (by walk_at "mem"))))
  | ((with_reducible refine' r_dgetS ?hs ?e ?_); (case hs => exact Or.inl (Wd.at (by assumption) (by walk_at "mem"))); (case e => assumption))
  | ((with_reducible refine' r_ds0 ?hs ?_); (case hs => exact Wd.at (by assumption) (by walk_at "mem")))
  | ((with_reducible refine' r_dputS ?w ?hi ?own ?hl ?hL ?_); (case w => assumption); (case hi => walk_at "hi"); (case own => walk_at "own"); (case hl => first | assumption | walk_at "sz"); (case hL => walk_at "set"); intro _ _)
  | ((with_reducible refine' r_dnew ?w ?_); (case w => assumption); intro _ _ _ _ _)
  | ((with_reducible refine' r_lenD ?hs ?_); (case hs => exact Wd.at (by assumption) (by walk_at "mem")))
  | ((with_reducible refine' r_fldW ?hs ?c ?nf ?l ?_); (case hs => exact Wd.at (by assumption) (by walk_at "mem")); (case c => assumption); (case nf => assumption); (case l => exact rfl))
  | ((with_reducible refine' r_lenS ?hs ?_); (case hs => walk_at "sz"))
  | ((with_reducible refine' r_slS ?hs ?_); (case hs => walk_at "sz"))
  | ((with_reducible refine' r_cat ?hs ?_); (case hs => walk_at "sz"))
  | ((with_reducible refine' r_ixS ?hs ?e ?_); (case hs => walk_at "sz"); (case e => assumption))
  | ((with_reducible refine' r_appW ?w ?hi ?own ?e ?hL ?_); (case w => assumption); (case hi => walk_at "hi"); (case own => walk_at "own"); (case e => walk_at "sz"); (case hL => walk_at "set"); intro _ _)
  | ((with_reducible refine' r_viewS ?hz ?_); (case hz => omega))
  | ((with_reducible refine' r_wordW ?w ?ov ?_); (case w => assumption); (case ov => assumption); intro _ _)
  | ((with_reducible refine' r_nextS ?w ?hi ?hc ?own ?ne ?n0 ?n1 ?hL ?_); (case w => assumption); (case hi => walk_at "hi"); (case hc => walk_at "mem"); (case own => walk_at "own"); (case ne => assumption); (case n0 => omega); (case n1 => omega); (case hL => intro _ _ _; walk_at "set"); intro _ _ _ _ _ _ _ _)
  | ((with_reducible refine' r_gT ?h ?e ?_); (case h => walk_at "tp"); (case e => exact rfl))
  | with_reducible refine' r_ss ?_
  | with_reducible refine' ifNT ?_
  | with_reducible refine' ifNF ?_
  | with_reducible refine' ifT ?_
  | with_reducible refine' ifF ?_)
local macro_rules | `(tactic| walk_at "rd") => `(tactic| repeat walk_at "rd1")
local macro_rules | `(tactic| walk_at "br") => `(tactic| first | with_reducible refine' if2 (fun _ => ?_) (fun _ => ?_) | with_reducible refine' ifn2 (fun _ => ?_) (fun _ => ?_) | with_reducible refine' ifb (fun _ => ?_) (fun _ => ?_) | with_reducible refine' ifnb (fun _ => ?_) (fun _ => ?_))
local macro_rules | `(tactic| walk_at "rdb") => `(tactic| repeat' (first | walk_at "rd1" | walk_at "br"))
local macro_rules | `(tactic| walk_at "bro") => `(tactic| first | with_reducible refine if2 (fun h => (by exfalso; omega)) (fun _ => ?_) | with_reducible refine if2 (fun _ => ?_) (fun h => (by exfalso; omega)) | with_reducible refine ifn2 (fun h => (by exfalso; omega)) (fun _ => ?_) | with_reducible refine ifn2 (fun _ => ?_) (fun h => (by exfalso; omega)) | with_reducible refine if2 (fun _ => ?_) (fun h => absurd rfl h) | with_reducible refine ifn2 (fun h => absurd rfl h) (fun _ => ?_))
local macro_rules | `(tactic| walk_at "rdo") => `(tactic| repeat (first | walk_at "rd1" | walk_at "bro"))

section
variable {P : Program} {w : World} {K : PySem.W.Frag} {mg : Str → Option Value} {base : Heap} {ad : Ad}
abbrev s_first_clash : Stmt := topS 14
theorem sc_first_clash : FnScope ["pairs", "size", "places", "number", "word", "image", "at", "view", "earlier"] ["pairs", "size"] (defScope s_first_clash) := ⟨rfl, rfl, rfl, by decide +kernel, rfl, by decide +kernel, by decide +kernel⟩
def spClash : Sp := fun vs H Q E => ∃ (pl : Addr) (ts : List Addr) (ps : List (Str × Str)) (n : Int), vs = [.ref pl, .int n] ∧ H pl = some (.lst (ts.map V.ref)) ∧ Tups H ts ps ∧ Small ps ∧ Even ps ∧
  (NoClash ps n → ∀ H', Frm [] H H' → Q .non H') ∧ (∀ (k a k' a' : Nat), ClashAt ps n k a k' a' → ∀ (r e1 e2 : Addr) (H' : Hp), Frm [] H H' → H r = none → H' r = some (.tup [.ref e1, .ref e2]) → H' e1 = some (.tup [.int k, .int a]) → H' e2 = some (.tup [.int k', .int a']) → Q (.ref r) H')
theorem w_first_clash (T : Txt K mg ad) (c_view_at : CalX P w K mg base L2.CX0 1 "view_at" spView) {f : Addr} {fd : FuncData} (F : Fun K "first_clash" "first_clash" s_first_clash f fd) : FnOk P w K mg base L2.CX0 2 f fd ["pairs", "size"] spClash := by
  refine F.ok sc_first_clash (fun vs H Q E h => ?_) (fun cdv A outer s H vs Q E hr h => ?_)
  · obtain ⟨pl, ts, ps, n, rfl, _⟩ := h
    rfl
  · obtain ⟨pl, ts, ps, n, rfl, h1, tu, sm, ev, k1, k2⟩ := h
    have hu := hu_of hr
    have w0 : Wd H [] H [(pl, .lst (ts.map V.ref))] := .here _ (by simp) (by simpa using h1)
    refine ⟨_, (pss_cons (ps_set (i := 2) sc_first_clash.nd rfl (Or.inl rfl) pe_dnewK)
    (pss_cons (ps_for PassesOwn.never rfl (pi_enum (by rfl) T.n_enumerate (pa_cons (pv 0) pa_nil)) (pg_tup rfl (pgs_cons (pg_name (i := 3) sc_first_clash.nd rfl (Or.inl rfl)) (pgs_cons (pg_tup rfl (pgs_cons (pg_name (i := 4) sc_first_clash.nd rfl (Or.inl rfl)) (pgs_cons (pg_name (i := 5) sc_first_clash.nd rfl (Or.inl rfl)) pgs_nil))) pgs_nil)))
      (pss_one (ps_for PassesOwn.never rfl (pi_range1 (by rfl) T.n_range (pa_cons (pe_callB call_len_str (by rfl) T.n_len (by decide +kernel) (pa_cons (pv 4) pa_nil)) pa_nil)) (pg_name (i := 6) sc_first_clash.nd rfl (Or.inl rfl))
        (pss_cons (ps_set (i := 7) sc_first_clash.nd rfl (Or.inl rfl) (pe_cx c_view_at hr (by decide) rfl pass0 (pa_cons (pv 4) (pa_cons (pv 6) (pa_cons (pv 1) pa_nil)))))
        (pss_cons (ps_set (i := 8) sc_first_clash.nd rfl (Or.inl rfl) (pe_dsetd (pv 2) (pv 7) (pe_tup (pa_cons (pv 3) (pa_cons (pv 6) pa_nil))) (by constructor <;> first | rfl | (intros; rfl))))
        (pss_one (ps_if (pt_cmpR op_ne (pe_ix ix_str (pe_ix ix_tup (pe_ix ix_list (pv 0) (pe_ix ix_tup (pv 8) pe_int (fun _ _ => rfl)) (fun _ _ => rfl)) pe_int (fun _ _ => rfl)) (pe_ix ix_tup (pv 8) pe_int (fun _ _ => rfl)) (fun _ _ => rfl)) (pe_ix ix_str (pv 5) (pv 6) (fun _ _ => rfl)) (nomark _)) (pss_one (ps_ret (pe_tup (pa_cons (pv 8) (pa_cons (pe_tup (pa_cons (pv 3) (pa_cons (pv 6) pa_nil))) pa_nil))))) pss_nil)))))))
    (pss_one (ps_ret pe_non)))), ?_⟩
    try simp only [cxK, cxKX]
    show (_ : TS) (_ : Ends) [some _, some _, none, none, none, none, none, none, none] _
    walk_at "rd"
    rename_i pd H1 nd fd w1
    refine f_enumL (xs := ts.map V.ref) (fun i σ H' => ∃ kvs, Wd H [] H' [(pd, .dK kvs), (pl, .lst (ts.map V.ref))] ∧ kvs.length ≤ 100 * i ∧ Known H' ps n kvs ∧ SeenTo H' ps n kvs i 0 ∧ ∃ x1 x2 x3 x4 x5 x6 : Option V, σ = [some (.ref pl), some (.int n), some (.ref pd), x1, x2, x3, x4, x5, x6])
      ⟨[], w1, Nat.zero_le _, fun s v e => (by cases e), fun k a c p hk => (by omega), none, none, none, none, none, none, rfl⟩ (fun i σ H' _ p => by obtain ⟨kvs, w2, _⟩ := p; exact sqL (w2.at (by walk_at "mem"))) (fun i x T1 σ H' hx p nT => ?_) (fun σ H' p => ?_)
    · obtain ⟨kvs, w2, kl, kn, se, x1, x2, x3, x4, x5, x6, rfl⟩ := p
      obtain ⟨ta, p, rfl, hta, hp, htp⟩ := tu.get hx
      have hpm : p ∈ ps := List.mem_of_getElem? hp
      have s1 := (sm.2 p hpm).1
      have s2 := (sm.2 p hpm).2
      have hev := ev p hpm
      have il : i < ps.length := (List.getElem?_eq_some_iff.mp hp).1
      have ilt := sm.1
      have w3 := (w2.new (o := .tup [.int (i : Nat), .ref ta]) nT).drop
      have fr3 : Frm [] H' (upd H' T1 (.tup [.int (i : Nat), .ref ta])) := Frm.new nT
      refine r_gT (n := 2) (xs := [.int (i : Nat), .ref ta]) upd_same rfl ?_
      generalize upd H' T1 (.tup [.int (i : Nat), .ref ta]) = H2 at w3 fr3 ⊢
      walk_at "rd"
      have e0 : ((p.1.length : Int)).toNat = p.1.length := by simp
      rw [e0]
      refine f_rng (fun j σ H' => ∃ kvs, Wd H [] H' [(pd, .dK kvs), (pl, .lst (ts.map V.ref))] ∧ kvs.length ≤ 100 * i + j ∧ Known H' ps n kvs ∧ SeenTo H' ps n kvs i j ∧ ∃ x4 x5 x6 : Option V, σ = [some (.ref pl), some (.int n), some (.ref pd), some (.int (i : Nat)), some (.str p.1), some (.str p.2), x4, x5, x6])
        ⟨kvs, w3, by omega, fun s v e => ?_, fun k a c q hk hq ha hc => ?_, _, _, _, rfl⟩ (fun j σ H' hj q => ?_) (fun σ H' q => ?_)
      · obtain ⟨c, h⟩ := kn s v e
        exact ⟨c, h.frm fr3⟩
      · exact (se k a c q hk hq ha hc).frm fr3
      · obtain ⟨kvs, w4, kl, kn, se, x4, x5, x6, rfl⟩ := q
        have jl : j < p.2.cps.size := by
          have : p.2.length = p.2.cps.size := rfl
          omega
        obtain ⟨c, hc⟩ : ∃ c, p.2.cps[j]? = some c := ⟨_, Array.getElem?_eq_getElem jl⟩
        have ec : atI p.2.cps.toList (j : Int) = some c := atI_nat (by simpa using hc)
        have back : ∀ {H5 : Hp} {L5 : List (Addr × HO)}, Wd H' [pd] H5 L5 → Wd H [] H5 L5 := fun w => w4.transN w (by simpa using fd)
        have w5 := w4.anew [pd]
        clear w1 w2 w3
        walk_at "rd"
        rename_i T2 H3 nT2 fT2 w6
        refine r_dsS (n := 1) w6 rfl (.inl (by simp)) (TZ.sz_lt (by omega)) rfl (fun u eu => ?_) (fun en H4 w7 => ?_)
        · obtain ⟨c0, t, k0, a0, p0, ev0, ht0, hp0, ha0, hc0, hv0⟩ := kn _ _ eu
          rw [eu] at ev0
          cases ev0
          obtain ⟨t0, ht0'⟩ : ∃ t0, ts[k0]? = some t0 := ⟨ts[k0]'(by rw [tu.1]; exact (List.getElem?_eq_some_iff.mp hp0).1), by simp⟩
          have e1 : atI (ts.map V.ref) (k0 : Int) = some (.ref t0) := atI_nat (by rw [List.getElem?_map, ht0']; rfl)
          have e2 : atI p0.2.cps.toList (a0 : Int) = some c0 := atI_nat (by simpa using hc0)
          have tt0 := (back w6).tup (tu.2 k0 t0 p0 ht0' hp0)
          have s3 := (sm.2 p0 (List.mem_of_getElem? hp0)).2
          walk_at "rd"
          refine ifn2 (fun hn => ?_) (fun he => ?_)
          · have cn : c0 ≠ c := fun z => hn (by rw [z])
            walk_at "rd"
            rename_i T3 H4 n3 f3 w7 r H5 n4 f4 w8
            exact k2 k0 a0 i j ⟨p0, p, c0, c, hp0, hp, ha0, hj, hv0, hc0, hc, cn⟩ r t T3 H5 (back w8).fr (w4.free f4) (w8.at (by walk_at "mem")) (w8.tup ht0) (w8.at (by walk_at "mem"))
          · have ce : c0 = c := by
              simpa using he
            subst ce
            walk_at "rd"
            refine ⟨kvs, (back w6).drop, by omega, fun s v e => ?_, fun k a d q hk hq ha hd => ?_, _, _, _, rfl⟩
            · obtain ⟨d, h⟩ := kn s v e
              exact ⟨d, h.frm w6.fr⟩
            · by_cases e : k = i ∧ a = j
              · obtain ⟨e, e'⟩ := e
                subst e e'
                rw [hp] at hq
                cases hq
                rw [hc] at hd
                cases hd
                exact ⟨t, k0, a0, p0, eu, w6.tup ht0, hp0, ha0, hc0, hv0⟩
              · exact (se k a d q (by omega) hq ha hd).frm w6.fr
        · have e1 : atI (ts.map V.ref) (i : Int) = some (.ref ta) := atI_nat (by rw [List.getElem?_map, hta]; rfl)
          have tt0 := (back w7).tup htp
          walk_at "rd"
          refine ifn2 (fun hn => absurd rfl hn) (fun _ => ?_)
          walk_at "rd"
          have new : Ent H4 ps n (putK kvs (Sum.inr (vw p.1 j n)) (.ref T2)) (vw p.1 j n) c := ⟨T2, i, j, p, by rw [valV_put, if_pos rfl], w7.at (by walk_at "mem"), hp, hj, hc, rfl⟩
          refine ⟨_, (back w7).drop, by have := length_putK kvs (Sum.inr (vw p.1 j n)) (.ref T2); omega, fun s v e => ?_, fun k a d q hk hq ha hd => ?_, _, _, _, rfl⟩
          · rw [valV_put] at e
            split at e
            · rename_i hs
              have hs' : s = vw p.1 j n := Sum.inr.inj hs
              rw [hs']
              exact ⟨c, new⟩
            · obtain ⟨d, h⟩ := kn s v e
              exact ⟨d, (h.put en).frm w7.fr⟩
          · by_cases e : k = i ∧ a = j
            · obtain ⟨e, e'⟩ := e
              subst e e'
              rw [hp] at hq
              cases hq
              rw [hc] at hd
              cases hd
              exact new
            · exact ((se k a d q (by omega) hq ha hd).put en).frm w7.fr
      · obtain ⟨kvs, w4, kl, kn, se, x4, x5, x6, rfl⟩ := q
        refine ⟨kvs, w4, by omega, kn, fun k a c q hk hq ha hc => ?_, _, _, _, _, _, _, rfl⟩
        by_cases e : k = i
        · subst e
          rw [hp] at hq
          cases hq
          exact se k a c p (.inr ⟨rfl, ha⟩) hp ha hc
        · exact se k a c q (.inl (by omega)) hq ha hc
    · obtain ⟨kvs, w2, kl, kn, se, x1, x2, x3, x4, x5, x6, rfl⟩ := p
      walk_at "rd"
      rw [List.length_map, tu.1] at se
      exact k1 (noclash_of se) H' w2.fr
end
end TZ

namespace TZ
open PySem L2
/-! ### the table of the views -/
def letter (p : Str × Str) (j : Nat) : Nat := p.2.cps.getD j 0
def tabJ (p : Str × Str) (n : Int) (kvs : List (Key × V)) : Nat → List (Key × V)
  | 0 => kvs
  | j + 1 => putK (tabJ p n kvs j) (Sum.inr (vw p.1 j n)) (.str ⟨#[letter p j]⟩)
def tabI (ps : List (Str × Str)) (n : Int) : Nat → List (Key × V)
  | 0 => []
  | i + 1 => tabJ (ps.getD i ("", "")) n (tabI ps n i) (ps.getD i ("", "")).1.length
def tabK (ps : List (Str × Str)) (n : Int) : List (Key × V) := tabI ps n ps.length
theorem tabJ_ok {p : Str × Str} {n : Int} {kvs : List (Key × V)} (h : DictOk kvs) : ∀ j, DictOk (tabJ p n kvs j)
  | 0 => h
  | j + 1 => (tabJ_ok h j).put _ _
theorem tabI_ok {ps : List (Str × Str)} {n : Int} : ∀ i, DictOk (tabI ps n i)
  | 0 => DictOk.nil
  | i + 1 => tabJ_ok (tabI_ok i) _
theorem tabJ_len {p : Str × Str} {n : Int} {kvs : List (Key × V)} : ∀ j, (tabJ p n kvs j).length ≤ kvs.length + j
  | 0 => Nat.le_refl _
  | j + 1 => Nat.le_trans (length_putK _ _ _) (by have := tabJ_len (p := p) (n := n) (kvs := kvs) j; omega)
theorem tabI_len {ps : List (Str × Str)} {n : Int} (h : Small ps) : ∀ i, (tabI ps n i).length ≤ 100 * i
  | 0 => Nat.le_refl _
  | i + 1 => by
    have h1 := tabJ_len (p := ps.getD i ("", "")) (n := n) (kvs := tabI ps n i) (ps.getD i ("", "")).1.length
    have h2 := tabI_len (n := n) h i
    have h3 : (ps.getD i ("", "")).1.length ≤ 100 := by
      rw [List.getD_eq_getElem?_getD]
      cases e : ps[i]? with
      | none => exact (by decide : (("" : Str), ("" : Str)).1.length ≤ 100)
      | some p => exact (h.2 p (List.mem_of_getElem? e)).1
    show (tabJ (ps.getD i ("", "")) n (tabI ps n i) (ps.getD i ("", "")).1.length).length ≤ 100 * (i + 1)
    omega
theorem tabI_at {ps : List (Str × Str)} {n : Int} {i : Nat} {p : Str × Str} (h : ps[i]? = some p) : tabI ps n (i + 1) = tabJ p n (tabI ps n i) p.1.length := by
  have e : ps.getD i ("", "") = p := by rw [List.getD_eq_getElem?_getD, h]; rfl
  show tabJ (ps.getD i ("", "")) n (tabI ps n i) (ps.getD i ("", "")).1.length = _
  rw [e]
local macro_rules | `(tactic| walk_at "tp") => `(tactic| first | exact Wd.at (by assumption) (by walk_at "mem") | exact Wd.tup (by assumption) (by assumption) | assumption)
local macro_rules | `(tactic| walk_at "cd") => `(tactic| first | omega | exact ⟨by decide, by decide, by decide⟩ | exact Or.inl ⟨by decide, by decide⟩ | exact Or.inr ⟨by decide, by decide⟩ | exact Or.inl ⟨by omega, by omega⟩ | exact Or.inr ⟨by omega, by omega⟩ | exact ⟨by omega, by omega⟩)
local macro_rules | `(tactic| walk_at "mem") => `(tactic| ((repeat (first | exact List.Mem.head _ | apply List.Mem.tail)); done))
local macro_rules | `(tactic| walk_at "set") => `(tactic| (dsimp only [List.set]; try exact rfl))
local macro_rules | `(tactic| walk_at "seq") => `(tactic| exact sqL (Wd.at (by assumption) (by walk_at "mem")))
local macro_rules | `(tactic| walk_at "own") => `(tactic| first | exact Or.inl (by walk_at "mem") | exact Or.inr (by assumption))
local macro_rules | `(tactic| walk_at "hi") => `(tactic| first | exact (rfl : (_ : List (Addr × HO))[0]? = _) | exact (rfl : (_ : List (Addr × HO))[1]? = _) | exact (rfl : (_ : List (Addr × HO))[2]? = _) | exact (rfl : (_ : List (Addr × HO))[3]? = _) | exact (rfl : (_ : List (Addr × HO))[4]? = _) | exact (rfl : (_ : List (Addr × HO))[5]? = _) | exact (rfl : (_ : List (Addr × HO))[6]? = _) | exact (rfl : (_ : List (Addr × HO))[7]? = _) | exact (rfl : (_ : List (Addr × HO))[8]? = _) | exact (rfl : (_ : List (Addr × HO))[9]? = _))
local macro_rules | `(tactic| walk_at "sz") => `(tactic| first | (show _ ≤ sizeLine; decide) | (refine sz_ok ?_; first | omega | (simp only [List.length_cons, List.length_nil, List.length_map, PySem.Str.length_append] <;> omega) | (simp; done)) | (refine TZ.sz_lt ?_; first | omega | (simp only [List.length_cons, List.length_nil, List.length_map, List.length_append, PySem.Str.length_append] <;> omega) | (simp; done)))
local macro_rules | `(tactic| walk_at "rd1") => `(tactic| first
  | with_reducible refine' r_seq ?_
  | ((with_reducible refine' r_var ?hv ?_); (case hv => exact rfl))
  | with_reducible refine' r_c ?_
  | with_reducible refine' r_op ?_
  | with_reducible refine' r_I0 ?_
  | ((with_reducible refine' r_set ?hv ?_); (case hv => walk_at "set"))
  | with_reducible refine' r_asg ?_
  | with_reducible refine' r_cons ?_
  | with_reducible refine' r_nil ?_
  | with_reducible refine' r_cb ?_
  | with_reducible refine' r_call0 ?_
  | with_reducible refine' r_test ?_
  | with_reducible refine' r_B ?_
  | with_reducible refine' r_bl ?_
  | with_reducible refine' r_ifS ?_
  | with_reducible refine' r_and ?_
  | with_reducible refine' r_or ?_
  | with_reducible refine' r_not ?_
  | with_reducible refine' r_andV ?_
  | with_reducible refine' r_orV ?_
  | with_reducible refine' r_notV ?_
  | with_reducible refine' r_ifE ?_
  | with_reducible refine' r_eqI ?_
  | with_reducible refine' r_neI ?_
  | with_reducible refine' r_eqS ?_
  | with_reducible refine' r_neS ?_
  | ((with_reducible refine' r_eq ?hv ?_); (case hv => exact rfl))
  | ((with_reducible refine' r_ne ?hv ?_); (case hv => exact rfl))
  | with_reducible refine' r_ret ?_
  | with_reducible refine' r_retN ?_
  | with_reducible refine' r_drop ?_
  | with_reducible refine' r_next ?_
  | with_reducible refine' r_cont ?_
  | with_reducible refine' r_brk ?_
  | with_reducible refine' r_asgS ?_
  | with_reducible refine' r_asgT ?_
  | with_reducible refine' r_gN ?_
  | with_reducible refine' r_gc ?_
  | with_reducible refine' r_gn ?_
  | with_reducible refine' r_tup ?_
  | with_reducible refine' r_lst ?_
  | with_reducible refine' r_sl ?_
  | with_reducible refine' r_nopart ?_
  | with_reducible refine' r_part ?_
  | with_reducible refine' r_partI ?_
  | with_reducible refine' r_un ?_
  | with_reducible refine' r_U ?_
  | with_reducible refine' r_int1 ?_
  | with_reducible refine' r_l1 ?_
  | with_reducible refine' r_l2 ?_
  | with_reducible refine' r_sign ?_
  | with_reducible refine' r_refl ?_
  | with_reducible refine' r_bm ?_
  | with_reducible refine' r_bm0 ?_
  | ((with_reducible refine' r_I ?hv ?_); (case hv => walk_at "cd"))
  | ((with_reducible refine' r_ixL ?hs ?he ?_); (case hs => walk_at "seq"); (case he => first | assumption | exact rfl))
  | ((with_reducible refine' r_ixT ?hs ?he ?_); (case hs => walk_at "tp"); (case he => exact rfl))
  | ((with_reducible refine' r_lenL ?hs ?_); (case hs => walk_at "seq"))
  | ((with_reducible refine' r_lenT ?hs ?_); (case hs => walk_at "tp"))
  | ((with_reducible refine' r_tyL ?hs ?_); (case hs => walk_at "seq"))
  | ((with_reducible refine' r_setW ?w ?hi ?own ?e ?hy ?hL ?_); (case w => assumption); (case hi => walk_at "hi"); (case own => walk_at "own"); (case e => exact rfl); (case hy => walk_at "set"); (case hL => walk_at "set"); intro _ _)
  | ((with_reducible refine' r_mkT ?w ?hs ?_); (case w => assumption); (case hs => walk_at "sz"); intro _ _ _ _ _)
  | ((with_reducible refine' r_mkL ?w ?hs ?_); (case w => assumption); (case hs => walk_at "sz"); intro _ _ _ _ _)
  | with_reducible refine' r_for ?_
  | with_reducible refine' r_iList ?_
  | with_reducible refine' r_iRng1 ?_
  | with_reducible refine' r_iStr ?_
  | with_reducible refine' r_iEs ?_
  | with_reducible refine' r_iEl ?_
  | with_reducible refine' r_StQ ?_
  | with_reducible refine' r_EsQ ?_
  | ((with_reducible refine' r_RgQ ?hv ?_); (case hv => first | omega | assumption))
  | ((with_reducible refine' r_LsQ ?hs ?_); (case hs => walk_at "seq"))
  | ((with_reducible refine' r_ElQ ?hs ?_); (case hs => walk_at "seq"))
  | with_reducible refine' r_lc ?_
  | with_reducible refine' r_make ?_
  | with_reducible refine' r_dget ?_
  | with_reducible refine' r_din ?_
  | with_reducible refine' r_dnin ?_
  | with_reducible refine' r_dput ?_
  | with_reducible refine' r_dsetd ?_
  | with_reducible refine' r_fld ?_
  | with_reducible refine' r_fset ?_
  | ((with_reducible refine' r_dinS ?hs ?_); (case hs => exact Or.inl (Wd.at (by assumption) (by walk_at "mem"))))
  | ((with_reducible refine' r_dgetS ?hs ?e ?_); (case hs => exact Or.inl (Wd.at (by assumption) (by walk_at "mem"))); (case e => assumption))
  | ((with_reducible refine' r_ds0 ?hs ?_); (case hs => exact Wd.at (by assumption) (by walk_at "mem")))
  | ((with_reducible refine' r_dputS ?w ?hi ?own ?hl ?hL ?_); (case w => assumption); (case hi => walk_at "hi"); (case own => walk_at "own"); (case hl => first | assumption | walk_at "sz"); (case hL => walk_at "set"); intro _ _)
  | ((with_reducible refine' r_dnew ?w ?_); (case w => assumption); intro _ _ _ _ _)
  | ((with_reducible refine' r_lenD ?hs ?_); (case hs => exact Wd.at (by assumption) (by walk_at "mem")))
  | ((with_reducible refine' r_fldW ?hs ?c ?nf ?l ?_); (case hs => exact Wd.at (by assumption) (by walk_at "mem")); (case c => assumption); (case nf => assumption); (case l => exact rfl))
  | ((with_reducible refine' r_lenS ?hs ?_); (case hs => walk_at "sz"))
  | ((with_reducible refine' r_slS ?hs ?_); (case hs => walk_at "sz"))
  | ((with_reducible refine' r_cat ?hs ?_); (case hs => walk_at "sz"))
  | ((with_reducible refine' r_ixS ?hs ?e ?_); (case hs => walk_at "sz"); (case e => assumption))
  | ((with_reducible refine' r_appW ?w ?hi ?own ?e ?hL ?_); (case w => assumption); (case hi => walk_at "hi"); (case own => walk_at "own"); (case e => walk_at "sz"); (case hL => walk_at "set"); intro _ _)
  | ((with_reducible refine' r_viewS ?hz ?_); (case hz => omega))
  | ((with_reducible refine' r_wordW ?w ?ov ?_); (case w => assumption); (case ov => assumption); intro _ _)
  | ((with_reducible refine' r_nextS ?w ?hi ?hc ?own ?ne ?n0 ?n1 ?hL ?_); (case w => assumption); (case hi => walk_at "hi"); (case hc => walk_at "mem"); (case own => walk_at "own"); (case ne => assumption); (case n0 => omega); (case n1 => omega); (case hL => intro _ _ _; walk_at "set"); intro _ _ _ _ _ _ _ _)
  | ((with_reducible refine' r_gT ?h ?e ?_); (case h => walk_at "tp"); (case e => exact rfl))
  | with_reducible refine' r_ss ?_
  | with_reducible refine' ifNT ?_
  | with_reducible refine' ifNF ?_
  | with_reducible refine' ifT ?_
  | with_reducible refine' ifF ?_)
local macro_rules | `(tactic| walk_at "rd") => `(tactic| repeat walk_at "rd1")
local macro_rules | `(tactic| walk_at "br") => `(tactic| first | with_reducible refine' if2 (fun _ => ?_) (fun _ => ?_) | with_reducible refine' ifn2 (fun _ => ?_) (fun _ => ?_) | with_reducible refine' ifb (fun _ => ?_) (fun _ => ?_) | with_reducible refine' ifnb (fun _ => ?_) (fun _ => ?_))
local macro_rules | `(tactic| walk_at "rdb") => `(tactic| repeat' (first | walk_at "rd1" | walk_at "br"))
local macro_rules | `(tactic| walk_at "bro") => `(tactic| first | with_reducible refine if2 (fun h => (by exfalso; omega)) (fun _ => ?_) | with_reducible refine if2 (fun _ => ?_) (fun h => (by exfalso; omega)) | with_reducible refine ifn2 (fun h => (by exfalso; omega)) (fun _ => ?_) | with_reducible refine ifn2 (fun _ => ?_) (fun h => (by exfalso; omega)) | with_reducible refine if2 (fun _ => ?_) (fun h => absurd rfl h) | with_reducible refine ifn2 (fun h => absurd rfl h) (fun _ => ?_))
local macro_rules | `(tactic| walk_at "rdo") => `(tactic| repeat (first | walk_at "rd1" | walk_at "bro"))

section
variable {P : Program} {w : World} {K : PySem.W.Frag} {mg : Str → Option Value} {base : Heap} {ad : Ad}
abbrev s_fit_turner : Stmt := topS 15
theorem sc_fit_turner : FnScope ["letters", "images", "size", "pairs", "clash", "table", "word", "image", "at"] ["letters", "images", "size", "pairs"] (defScope s_fit_turner) := ⟨rfl, rfl, rfl, by decide +kernel, rfl, by decide +kernel, by decide +kernel⟩
def spFit (ad : Ad) : Sp := fun vs H Q E => ∃ (pl : Addr) (ts : List Addr) (ps : List (Str × Str)) (ls im : Str) (n : Int), vs = [.str ls, .str im, .int n, .ref pl] ∧ GoodL ls ∧ GoodL im ∧ H pl = some (.lst (ts.map V.ref)) ∧ Tups H ts ps ∧ Small ps ∧
  (AllFine ls im ps → NoClash ps n → ∀ (r tp dx d : Addr) (H' : Hp), Frm [] H H' → H r = none → H' r = some (.tup [.str "fits", .ref tp]) → H' tp = some (.ins ad.tu dx (tFs ls im n d)) → H' d = some (.dK (tabK ps n)) → Q (.ref r) H') ∧
  (AllFine ls im ps → ∀ (k a k' a' : Nat), ClashAt ps n k a k' a' → ∀ (r e1 e2 : Addr) (H' : Hp), Frm [] H H' → H r = none → H' r = some (.tup [.str "clash", .ref e1, .ref e2]) → H' e1 = some (.tup [.int k, .int a]) → H' e2 = some (.tup [.int k', .int a']) → Q (.ref r) H') ∧
  Raises2 ad ls im ps H E
theorem w_fit_turner (T : Txt K mg ad) (c_check_pairs : CalX P w K mg base (L2.CX P w) 4 "check_pairs" (spPairs ad)) (c_first_clash : CalX P w K mg base L2.CX0 2 "first_clash" spClash) (c_view_at : CalX P w K mg base L2.CX0 1 "view_at" spView) (c_Turner : MakX P w K mg base 2 "Turner" ad.tu (spTInit ad.tu))
    {f : Addr} {fd : FuncData} (F : Fun K "fit_turner" "fit_turner" s_fit_turner f fd) : FnOk P w K mg base (L2.CX P w) 5 f fd ["letters", "images", "size", "pairs"] (spFit ad) := by
  refine F.okX sc_fit_turner (fun vs H Q E h => ?_) (fun cdv A outer s H vs Q E hr h => ?_)
  · obtain ⟨pl, ts, ps, ls, im, n, rfl, _⟩ := h
    rfl
  · obtain ⟨pl, ts, ps, ls, im, n, rfl, gl, gi, h1, tu, sm, k1, k2, k3⟩ := h
    have hu := hu_of hr
    have w0 : Wd H [] H [(pl, .lst (ts.map V.ref))] := .here _ (by simp) (by simpa using h1)
    refine ⟨_, (pss_cons (ps_expr (pe_cx c_check_pairs hr (by decide) rfl (passes_call (takes_of rfl rfl rfl rfl) (fun _ _ _ _ h => h)) (pa_cons (pv 0) (pa_cons (pv 1) (pa_cons (pv 3) pa_nil)))))
    (pss_cons (ps_set (i := 4) sc_fit_turner.nd rfl (Or.inl rfl) (pe_cx c_first_clash hr (by decide) rfl pass0 (pa_cons (pv 3) (pa_cons (pv 2) pa_nil))))
    (pss_cons (ps_if (pt_cmpR op_notN (pv 4) pe_non (nomark _)) (pss_one (ps_ret (pe_tup (pa_cons pe_str (pa_cons (pe_ix ix_tup (pv 4) pe_int (fun _ _ => rfl)) (pa_cons (pe_ix ix_tup (pv 4) pe_int (fun _ _ => rfl)) pa_nil)))))) pss_nil)
    (pss_cons (ps_set (i := 5) sc_fit_turner.nd rfl (Or.inl rfl) pe_dnewK)
    (pss_cons (ps_for (passes_of rfl) rfl (pi_list (pv 3)) (pg_tup rfl (pgs_cons (pg_name (i := 6) sc_fit_turner.nd rfl (Or.inl rfl)) (pgs_cons (pg_name (i := 7) sc_fit_turner.nd rfl (Or.inl rfl)) pgs_nil)))
      (pss_one (ps_for (passes_of rfl) rfl (pi_range1 (by rfl) T.n_range (pa_cons (pe_callB call_len_str (by rfl) T.n_len (by decide +kernel) (pa_cons (pv 6) pa_nil)) pa_nil)) (pg_name (i := 8) sc_fit_turner.nd rfl (Or.inl rfl))
        (pss_one (ps_dput hu (pv 5) (pe_cx c_view_at hr (by decide) rfl pass0 (pa_cons (pv 6) (pa_cons (pv 8) (pa_cons (pv 2) pa_nil)))) (pe_ix ix_str (pv 7) (pv 8) (fun _ _ => rfl)) rfl)))))
    (pss_one (ps_ret (pe_tup (pa_cons pe_str (pa_cons (pe_mkx c_Turner hr (by decide) rfl (pa_cons (pv 0) (pa_cons (pv 1) (pa_cons (pv 2) (pa_cons (pv 5) pa_nil))))) pa_nil)))))))))), ?_⟩
    try simp only [cxK, cxKX]
    show (_ : TS) (_ : Ends) [some _, some _, some _, some _, none, none, none, none, none] _
    walk_at "rd"
    refine ⟨pl, ts, ps, ls, im, rfl, gl, gi, h1, tu, sm, fun fine H1 f1 => ?_, k3⟩
    have w1 := w0.call0 f1
    have tu1 := tu.frm f1
    have ev : Even ps := fun p hp => by
      obtain ⟨j, hj⟩ := List.mem_iff_getElem?.mp hp
      exact (fine j p hj).2.2
    walk_at "rd"
    refine ⟨pl, ts, ps, n, rfl, w1.at (by walk_at "mem"), tu1, sm, ev, fun nc H2 f2 => ?_, fun k a k' a' cl r e1 e2 H2 f2 nr hr1 he1 he2 => ?_⟩
    · have w2 := w1.call0 f2
      have tu2 := tu1.frm f2
      walk_at "rd"
      refine ifn2 (fun hn => absurd rfl hn) (fun _ => ?_)
      walk_at "rd"
      rename_i td H3 n3 f3 w3
      refine f_list (xs := ts.map V.ref) (fun i σ H' => Wd H [] H' [(td, .dK (tabI ps n i)), (pl, .lst (ts.map V.ref))] ∧ ∃ c x1 x2 x3 : Option V, σ = [some (.str ls), some (.str im), some (.int n), some (.ref pl), c, some (.ref td), x1, x2, x3]) ⟨w3, _, _, _, _, rfl⟩
        (fun i σ H' _ p => sqL (p.1.at (by walk_at "mem"))) (fun i x σ H' hx p => ?_) (fun σ H' p => ?_)
      · obtain ⟨w4, c, x1, x2, x3, rfl⟩ := p
        obtain ⟨ta, p, rfl, hta, hp, htp⟩ := tu.get hx
        have hpm : p ∈ ps := List.mem_of_getElem? hp
        have s1 := (sm.2 p hpm).1
        have s2 := (sm.2 p hpm).2
        have hev := ev p hpm
        have il : i < ps.length := (List.getElem?_eq_some_iff.mp hp).1
        have ilt := sm.1
        have htc := w4.tup htp
        walk_at "rd"
        have e0 : ((p.1.length : Int)).toNat = p.1.length := by simp
        rw [e0]
        refine f_rng (fun j σ H' => Wd H [] H' [(td, .dK (tabJ p n (tabI ps n i) j)), (pl, .lst (ts.map V.ref))] ∧ ∃ x3 : Option V, σ = [some (.str ls), some (.str im), some (.int n), some (.ref pl), c, some (.ref td), some (.str p.1), some (.str p.2), x3]) ⟨w4, _, rfl⟩ (fun j σ H' hj q => ?_) (fun σ H' q => ?_)
        · obtain ⟨w5, x3, rfl⟩ := q
          have jl : j < p.2.cps.size := by
            have : p.2.length = p.2.cps.size := rfl
            omega
          have hc : p.2.cps[j]? = some (letter p j) := by
            unfold letter
            rw [Array.getD_eq_getD_getElem?, Array.getElem?_eq_getElem jl]
            rfl
          have ec : atI p.2.cps.toList (j : Int) = some (letter p j) := atI_nat (by simpa using hc)
          have tl := tabJ_len (p := p) (n := n) (kvs := tabI ps n i) j
          have tl2 := tabI_len (n := n) sm i
          walk_at "rd"
          rename_i H5 w6
          exact ⟨w6, _, rfl⟩
        · obtain ⟨w5, x3, rfl⟩ := q
          refine ⟨?_, c, _, _, _, rfl⟩
          rw [tabI_at hp]
          exact w5
      · obtain ⟨w4, c, x1, x2, x3, rfl⟩ := p
        rw [List.length_map, tu.1] at w4
        walk_at "rd"
        refine r_mkQ w4 (fun x dx H3 nx fx fdx w5 => ?_)
        refine ⟨x, dx, td, ls, im, n, _, rfl, w5.at (by walk_at "mem"), w5.at (by walk_at "mem"), gl, gi, fun d H4 nd f4 hx hd => ⟨rfl, ?_⟩⟩
        have w6 := (w5.call1 (i := 0) rfl (.inr fx) f4 hx (fun _ z => by cases z)).add w5 nd hd
        walk_at "rd"
        rename_i q H5 n5 f5 w7
        exact k1 fine nc q x dx d H5 w7.fr f5 (w7.at (by walk_at "mem")) (w7.at (by walk_at "mem")) (w7.at (by walk_at "mem"))
    · have w2 := w1.call0 f2
      have w2a := w2.anew []
      walk_at "rd"
      refine ifn2 (fun _ => ?_) (fun hn => by cases hn)
      walk_at "rd"
      rename_i q H3 n3 f3 w3
      exact k2 fine k a k' a' cl q e1 e2 H3 (w2.transN w3 (by simp)).fr (w2.free f3) (w3.at (by walk_at "mem")) (w3.tup he1) (w3.tup he2)
end
end TZ

namespace TZ
open PySem L2
/-! ### the table, told: every place ahead has its letter there, every entry comes from a place -/
def SeenT (kvs : List (Key × V)) (ps : List (Str × Str)) (n : Int) (i j : Nat) : Prop := ∀ (k a c : Nat) (p : Str × Str), k < i ∨ (k = i ∧ a < j) → ps[k]? = some p → a < p.1.length → p.2.cps[a]? = some c → valV kvs (Sum.inr (vw p.1 a n)) = some (.str ⟨#[c]⟩)
def FromT (kvs : List (Key × V)) (ps : List (Str × Str)) (n : Int) : Prop := ∀ (s : Str) (v : V), valV kvs (Sum.inr s) = some v → ∃ (k a c : Nat) (p : Str × Str), v = .str ⟨#[c]⟩ ∧ ps[k]? = some p ∧ a < p.1.length ∧ p.2.cps[a]? = some c ∧ vw p.1 a n = s
theorem FromT.put {kvs : List (Key × V)} {ps : List (Str × Str)} {n : Int} (h : FromT kvs ps n) {k a c : Nat} {p : Str × Str} (hp : ps[k]? = some p) (ha : a < p.1.length) (hc : p.2.cps[a]? = some c) : FromT (putK kvs (Sum.inr (vw p.1 a n)) (.str ⟨#[c]⟩)) ps n := fun s v e => by
  rw [valV_put] at e
  split at e
  · rename_i hs
    cases e
    exact ⟨k, a, c, p, rfl, hp, ha, hc, (Sum.inr.inj hs).symm⟩
  · exact h s v e
theorem SeenT.put {kvs : List (Key × V)} {ps : List (Str × Str)} {n : Int} {i j c : Nat} {p : Str × Str} (h : SeenT kvs ps n i j) (hp : ps[i]? = some p) (ha : j < p.1.length) (hc : p.2.cps[j]? = some c)
    (ok : ∀ v, valV kvs (Sum.inr (vw p.1 j n)) = some v → v = .str ⟨#[c]⟩) : SeenT (putK kvs (Sum.inr (vw p.1 j n)) (.str ⟨#[c]⟩)) ps n i (j + 1) := fun k a d q hk hq hb hd => by
  rw [valV_put]
  by_cases e : k = i ∧ a = j
  · obtain ⟨e, e'⟩ := e
    subst e e'
    rw [hp] at hq
    cases hq
    rw [hc] at hd
    cases hd
    rw [if_pos rfl]
  · have h1 := h k a d q (by omega) hq hb hd
    split
    · rename_i hs
      rw [hs] at h1
      exact congrArg some (ok _ h1).symm
    · exact h1
theorem SeenT.noclash {kvs : List (Key × V)} {ps : List (Str × Str)} {n : Int} (h : SeenT kvs ps n ps.length 0) : NoClash ps n := by
  rintro k a k' a' ⟨p, q, c, d, hp, hq, ha, ha', hv, hc, hd, ne⟩
  have e1 := h k a c p (.inl (List.getElem?_eq_some_iff.mp hp).1) hp ha hc
  have e2 := h k' a' d q (.inl (List.getElem?_eq_some_iff.mp hq).1) hq ha' hd
  rw [← hv, e1] at e2
  have e3 := V.str.inj (Option.some.inj e2)
  exact ne (by simpa using e3)
local macro_rules | `(tactic| walk_at "tp") => `(tactic| first | exact Wd.at (by assumption) (by walk_at "mem") | exact Wd.tup (by assumption) (by assumption) | assumption)
local macro_rules | `(tactic| walk_at "cd") => `(tactic| first | omega | exact ⟨by decide, by decide, by decide⟩ | exact Or.inl ⟨by decide, by decide⟩ | exact Or.inr ⟨by decide, by decide⟩ | exact Or.inl ⟨by omega, by omega⟩ | exact Or.inr ⟨by omega, by omega⟩ | exact ⟨by omega, by omega⟩)
local macro_rules | `(tactic| walk_at "mem") => `(tactic| ((repeat (first | exact List.Mem.head _ | apply List.Mem.tail)); done))
local macro_rules | `(tactic| walk_at "set") => `(tactic| (dsimp only [List.set]; try exact rfl))
local macro_rules | `(tactic| walk_at "seq") => `(tactic| exact sqL (Wd.at (by assumption) (by walk_at "mem")))
local macro_rules | `(tactic| walk_at "own") => `(tactic| first | exact Or.inl (by walk_at "mem") | exact Or.inr (by assumption))
local macro_rules | `(tactic| walk_at "hi") => `(tactic| first | exact (rfl : (_ : List (Addr × HO))[0]? = _) | exact (rfl : (_ : List (Addr × HO))[1]? = _) | exact (rfl : (_ : List (Addr × HO))[2]? = _) | exact (rfl : (_ : List (Addr × HO))[3]? = _) | exact (rfl : (_ : List (Addr × HO))[4]? = _) | exact (rfl : (_ : List (Addr × HO))[5]? = _) | exact (rfl : (_ : List (Addr × HO))[6]? = _) | exact (rfl : (_ : List (Addr × HO))[7]? = _) | exact (rfl : (_ : List (Addr × HO))[8]? = _) | exact (rfl : (_ : List (Addr × HO))[9]? = _))
local macro_rules | `(tactic| walk_at "sz") => `(tactic| first | (show _ ≤ sizeLine; decide) | (refine sz_ok ?_; first | omega | (simp only [List.length_cons, List.length_nil, List.length_map, PySem.Str.length_append] <;> omega) | (simp; done)) | (refine TZ.sz_lt ?_; first | omega | (simp only [List.length_cons, List.length_nil, List.length_map, List.length_append, PySem.Str.length_append] <;> omega) | (simp; done)))
local macro_rules | `(tactic| walk_at "rd1") => `(tactic| first
  | with_reducible refine' r_seq ?_
  | ((with_reducible refine' r_var ?hv ?_); (case hv => exact rfl))
  | with_reducible refine' r_c ?_
  | with_reducible refine' r_op ?_
  | with_reducible refine' r_I0 ?_
  | ((with_reducible refine' r_set ?hv ?_); (case hv => walk_at "set"))
  | with_reducible refine' r_asg ?_
  | with_reducible refine' r_cons ?_
  | with_reducible refine' r_nil ?_
  | with_reducible refine' r_cb ?_
  | with_reducible refine' r_call0 ?_
  | with_reducible refine' r_test ?_
  | with_reducible refine' r_B ?_
  | with_reducible refine' r_bl ?_
  | with_reducible refine' r_ifS ?_
  | with_reducible refine' r_and ?_
  | with_reducible refine' r_or ?_
  | with_reducible refine' r_not ?_
  | with_reducible refine' r_andV ?_
  | with_reducible refine' r_orV ?_
  | with_reducible refine' r_notV ?_
  | with_reducible refine' r_ifE ?_
  | with_reducible refine' r_eqI ?_
  | with_reducible refine' r_neI ?_
  | with_reducible refine' r_eqS ?_
  | with_reducible refine' r_neS ?_
  | ((with_reducible refine' r_eq ?hv ?_); (case hv => exact rfl))
  | ((with_reducible refine' r_ne ?hv ?_); (case hv => exact rfl))
  | with_reducible refine' r_ret ?_
  | with_reducible refine' r_retN ?_
  | with_reducible refine' r_drop ?_
  | with_reducible refine' r_next ?_
  | with_reducible refine' r_cont ?_
  | with_reducible refine' r_brk ?_
  | with_reducible refine' r_asgS ?_
  | with_reducible refine' r_asgT ?_
  | with_reducible refine' r_gN ?_
  | with_reducible refine' r_gc ?_
  | with_reducible refine' r_gn ?_
  | with_reducible refine' r_tup ?_
  | with_reducible refine' r_lst ?_
  | with_reducible refine' r_sl ?_
  | with_reducible refine' r_nopart ?_
  | with_reducible refine' r_part ?_
  | with_reducible refine' r_partI ?_
  | with_reducible refine' r_un ?_
  | with_reducible refine' r_U ?_
  | with_reducible refine' r_int1 ?_
  | with_reducible refine' r_l1 ?_
  | with_reducible refine' r_l2 ?_
  | with_reducible refine' r_sign ?_
  | with_reducible refine' r_refl ?_
  | with_reducible refine' r_bm ?_
  | with_reducible refine' r_bm0 ?_
  | ((with_reducible refine' r_I ?hv ?_); (case hv => walk_at "cd"))
  | ((with_reducible refine' r_ixL ?hs ?he ?_); (case hs => walk_at "seq"); (case he => first | assumption | exact rfl))
  | ((with_reducible refine' r_ixT ?hs ?he ?_); (case hs => walk_at "tp"); (case he => exact rfl))
  | ((with_reducible refine' r_lenL ?hs ?_); (case hs => walk_at "seq"))
  | ((with_reducible refine' r_lenT ?hs ?_); (case hs => walk_at "tp"))
  | ((with_reducible refine' r_tyL ?hs ?_); (case hs => walk_at "seq"))
  | ((with_reducible refine' r_setW ?w ?hi ?own ?e ?hy ?hL ?_); (case w => assumption); (case hi => walk_at "hi"); (case own => walk_at "own"); (case e => exact rfl); (case hy => walk_at "set"); (case hL => walk_at "set"); intro _ _)
  | ((with_reducible refine' r_mkT ?w ?hs ?_); (case w => assumption); (case hs => walk_at "sz"); intro _ _ _ _ _)
  | ((with_reducible refine' r_mkL ?w ?hs ?_); (case w => assumption); (case hs => walk_at "sz"); intro _ _ _ _ _)
  | with_reducible refine' r_for ?_
  | with_reducible refine' r_iList ?_
  | with_reducible refine' r_iRng1 ?_
  | with_reducible refine' r_iStr ?_
  | with_reducible refine' r_iEs ?_
  | with_reducible refine' r_iEl ?_
  | with_reducible refine' r_StQ ?_
  | with_reducible refine' r_EsQ ?_
  | ((with_reducible refine' r_RgQ ?hv ?_); (case hv => first | omega | assumption))
  | ((with_reducible refine' r_LsQ ?hs ?_); (case hs => walk_at "seq"))
  | ((with_reducible refine' r_ElQ ?hs ?_); (case hs => walk_at "seq"))
  | with_reducible refine' r_lc ?_
  | with_reducible refine' r_make ?_
  | with_reducible refine' r_dget ?_
  | with_reducible refine' r_din ?_
  | with_reducible refine' r_dnin ?_
  | with_reducible refine' r_dput ?_
  | with_reducible refine' r_dsetd ?_
  | with_reducible refine' r_fld ?_
  | with_reducible refine' r_fset ?_
  | ((with_reducible refine' r_dinS ?hs ?_); (case hs => exact Or.inl (Wd.at (by assumption) (by walk_at "mem"))))
  | ((with_reducible refine' r_dgetS ?hs ?e ?_); (case hs => exact Or.inl (Wd.at (by assumption) (by walk_at "mem"))); (case e => assumption))
  | ((with_reducible refine' r_ds0 ?hs ?_); (case hs => exact Wd.at (by assumption) (by walk_at "mem")))
  | ((with_reducible refine' r_dputS ?w ?hi ?own ?hl ?hL ?_); (case w => assumption); (case hi => walk_at "hi"); (case own => walk_at "own"); (case hl => first | assumption | walk_at "sz"); (case hL => walk_at "set"); intro _ _)
  | ((with_reducible refine' r_dnew ?w ?_); (case w => assumption); intro _ _ _ _ _)
  | ((with_reducible refine' r_lenD ?hs ?_); (case hs => exact Wd.at (by assumption) (by walk_at "mem")))
  | ((with_reducible refine' r_fldW ?hs ?c ?nf ?l ?_); (case hs => exact Wd.at (by assumption) (by walk_at "mem")); (case c => assumption); (case nf => assumption); (case l => exact rfl))
  | ((with_reducible refine' r_lenS ?hs ?_); (case hs => walk_at "sz"))
  | ((with_reducible refine' r_slS ?hs ?_); (case hs => walk_at "sz"))
  | ((with_reducible refine' r_cat ?hs ?_); (case hs => walk_at "sz"))
  | ((with_reducible refine' r_ixS ?hs ?e ?_); (case hs => walk_at "sz"); (case e => assumption))
  | ((with_reducible refine' r_appW ?w ?hi ?own ?e ?hL ?_); (case w => assumption); (case hi => walk_at "hi"); (case own => walk_at "own"); (case e => walk_at "sz"); (case hL => walk_at "set"); intro _ _)
  | ((with_reducible refine' r_viewS ?hz ?_); (case hz => omega))
  | ((with_reducible refine' r_wordW ?w ?ov ?_); (case w => assumption); (case ov => assumption); intro _ _)
  | ((with_reducible refine' r_nextS ?w ?hi ?hc ?own ?ne ?n0 ?n1 ?hL ?_); (case w => assumption); (case hi => walk_at "hi"); (case hc => walk_at "mem"); (case own => walk_at "own"); (case ne => assumption); (case n0 => omega); (case n1 => omega); (case hL => intro _ _ _; walk_at "set"); intro _ _ _ _ _ _ _ _)
  | ((with_reducible refine' r_gT ?h ?e ?_); (case h => walk_at "tp"); (case e => exact rfl))
  | with_reducible refine' r_ss ?_
  | with_reducible refine' ifNT ?_
  | with_reducible refine' ifNF ?_
  | with_reducible refine' ifT ?_
  | with_reducible refine' ifF ?_)
local macro_rules | `(tactic| walk_at "rd") => `(tactic| repeat walk_at "rd1")
local macro_rules | `(tactic| walk_at "br") => `(tactic| first | with_reducible refine' if2 (fun _ => ?_) (fun _ => ?_) | with_reducible refine' ifn2 (fun _ => ?_) (fun _ => ?_) | with_reducible refine' ifb (fun _ => ?_) (fun _ => ?_) | with_reducible refine' ifnb (fun _ => ?_) (fun _ => ?_))
local macro_rules | `(tactic| walk_at "rdb") => `(tactic| repeat' (first | walk_at "rd1" | walk_at "br"))
local macro_rules | `(tactic| walk_at "bro") => `(tactic| first | with_reducible refine if2 (fun h => (by exfalso; omega)) (fun _ => ?_) | with_reducible refine if2 (fun _ => ?_) (fun h => (by exfalso; omega)) | with_reducible refine ifn2 (fun h => (by exfalso; omega)) (fun _ => ?_) | with_reducible refine ifn2 (fun _ => ?_) (fun h => (by exfalso; omega)) | with_reducible refine if2 (fun _ => ?_) (fun h => absurd rfl h) | with_reducible refine ifn2 (fun h => absurd rfl h) (fun _ => ?_))
local macro_rules | `(tactic| walk_at "rdo") => `(tactic| repeat (first | walk_at "rd1" | walk_at "bro"))

section
variable {P : Program} {w : World} {K : PySem.W.Frag} {mg : Str → Option Value} {base : Heap} {ad : Ad}
abbrev s_law_table : Stmt := topS 23
theorem sc_law_table : FnScope ["pairs", "size", "table", "pair", "at", "view"] ["pairs", "size"] (defScope s_law_table) := ⟨rfl, rfl, rfl, by decide +kernel, rfl, by decide +kernel, by decide +kernel⟩
def spTable : Sp := fun vs H Q E => ∃ (pl : Addr) (ts : List Addr) (ps : List (Str × Str)) (n : Int), vs = [.ref pl, .int n] ∧ H pl = some (.lst (ts.map V.ref)) ∧ Tups H ts ps ∧ Small ps ∧ Even ps ∧
  (NoClash ps n → SeenT (tabK ps n) ps n ps.length 0 → ∀ (d : Addr) (H' : Hp), Frm [] H H' → H d = none → H' d = some (.dK (tabK ps n)) → Q (.ref d) H') ∧ (¬ NoClash ps n → ∀ H', Frm [] H H' → Q .non H')
theorem w_law_table (T : Txt K mg ad) (c_law_view : CalX P w K mg base L2.CX0 1 "_law_view" spView) {f : Addr} {fd : FuncData} (F : Fun K "_law_table" "_law_table" s_law_table f fd) : FnOk P w K mg base L2.CX0 2 f fd ["pairs", "size"] spTable := by
  refine F.ok sc_law_table (fun vs H Q E h => ?_) (fun cdv A outer s H vs Q E hr h => ?_)
  · obtain ⟨pl, ts, ps, n, rfl, _⟩ := h
    rfl
  · obtain ⟨pl, ts, ps, n, rfl, h1, tu, sm, ev, k1, k2⟩ := h
    have hu := hu_of hr
    have w0 : Wd H [] H [(pl, .lst (ts.map V.ref))] := .here _ (by simp) (by simpa using h1)
    refine ⟨_, (pss_cons (ps_set (i := 2) sc_law_table.nd rfl (Or.inl rfl) pe_dnewK)
    (pss_cons (ps_for PassesOwn.never rfl (pi_list (pv 0)) (pg_name (i := 3) sc_law_table.nd rfl (Or.inl rfl))
      (pss_one (ps_for PassesOwn.never rfl (pi_range1 (by rfl) T.n_range (pa_cons (pe_callB call_len_str (by rfl) T.n_len (by decide +kernel) (pa_cons (pe_ix ix_tup (pv 3) pe_int (fun _ _ => rfl)) pa_nil)) pa_nil)) (pg_name (i := 4) sc_law_table.nd rfl (Or.inl rfl))
        (pss_cons (ps_set (i := 5) sc_law_table.nd rfl (Or.inl rfl) (pe_cx c_law_view hr (by decide) rfl pass0 (pa_cons (pe_ix ix_tup (pv 3) pe_int (fun _ _ => rfl)) (pa_cons (pv 4) (pa_cons (pv 1) pa_nil)))))
        (pss_cons (ps_if (PW.pt (pw_and (pt_cmp (pc_din hu (pv 5) (pv 2))) (pw_and1 (pt_cmpR op_ne (pe_dget hu (pv 2) (pv 5) (fun _ _ => rfl)) (pe_ix ix_str (pe_ix ix_tup (pv 3) pe_int (fun _ _ => rfl)) (pv 4) (fun _ _ => rfl)) (nomark _))))) (pss_one (ps_ret pe_non)) pss_nil)
        (pss_one (ps_dput hu (pv 2) (pv 5) (pe_ix ix_str (pe_ix ix_tup (pv 3) pe_int (fun _ _ => rfl)) (pv 4) (fun _ _ => rfl)) rfl)))))))
    (pss_one (ps_ret (pv 2))))), ?_⟩
    try simp only [cxK, cxKX]
    show (_ : TS) (_ : Ends) [some _, some _, none, none, none, none] _
    walk_at "rd"
    rename_i td H3 n3 f3 w3
    refine f_list (xs := ts.map V.ref) (fun i σ H' => Wd H [] H' [(td, .dK (tabI ps n i)), (pl, .lst (ts.map V.ref))] ∧ SeenT (tabI ps n i) ps n i 0 ∧ FromT (tabI ps n i) ps n ∧ ∃ x1 x2 x3 : Option V, σ = [some (.ref pl), some (.int n), some (.ref td), x1, x2, x3])
      ⟨w3, fun k a c p hk => (by omega), fun s v e => (by cases e), _, _, _, rfl⟩
      (fun i σ H' _ p => sqL (p.1.at (by walk_at "mem"))) (fun i x σ H' hx p => ?_) (fun σ H' p => ?_)
    · obtain ⟨w4, se, fr, x1, x2, x3, rfl⟩ := p
      obtain ⟨ta, p, rfl, hta, hp, htp⟩ := tu.get hx
      have hpm : p ∈ ps := List.mem_of_getElem? hp
      have s1 := (sm.2 p hpm).1
      have s2 := (sm.2 p hpm).2
      have hev := ev p hpm
      have il : i < ps.length := (List.getElem?_eq_some_iff.mp hp).1
      have ilt := sm.1
      have htc := w4.tup htp
      walk_at "rd"
      have e0 : ((p.1.length : Int)).toNat = p.1.length := by simp
      rw [e0]
      refine f_rng (fun j σ H' => Wd H [] H' [(td, .dK (tabJ p n (tabI ps n i) j)), (pl, .lst (ts.map V.ref))] ∧ SeenT (tabJ p n (tabI ps n i) j) ps n i j ∧ FromT (tabJ p n (tabI ps n i) j) ps n ∧ ∃ x2 x3 : Option V, σ = [some (.ref pl), some (.int n), some (.ref td), some (.ref ta), x2, x3]) ⟨w4, se, fr, _, _, rfl⟩ (fun j σ H' hj q => ?_) (fun σ H' q => ?_)
      · obtain ⟨w5, se, fr, x2, x3, rfl⟩ := q
        have jl : j < p.2.cps.size := by
          have : p.2.length = p.2.cps.size := rfl
          omega
        have hc : p.2.cps[j]? = some (letter p j) := by
          unfold letter
          rw [Array.getD_eq_getD_getElem?, Array.getElem?_eq_getElem jl]
          rfl
        have ec : atI p.2.cps.toList (j : Int) = some (letter p j) := atI_nat (by simpa using hc)
        have tl := tabJ_len (p := p) (n := n) (kvs := tabI ps n i) j
        have tl2 := tabI_len (n := n) sm i
        walk_at "rd"
        refine ifb (fun hs => ?_) (fun hs => ?_)
        · obtain ⟨v, ev1⟩ := Option.isSome_iff_exists.mp hs
          obtain ⟨k, a, c, q, rfl, hq, ha, hqc, hv⟩ := fr _ _ ev1
          walk_at "rd"
          refine ifn2 (fun hn => ?_) (fun he => ?_)
          · walk_at "rd"
            refine k2 (fun nc => nc k a i j ⟨q, p, c, letter p j, hq, hp, ha, hj, hv, hqc, hc, fun z => hn (by rw [z])⟩) H' w5.fr
          · walk_at "rd"
            rename_i H5 w6
            exact ⟨w6, se.put hp hj hc (fun v e => by rw [ev1] at e; cases e; rw [he]), fr.put hp hj hc, _, _, rfl⟩
        · have en : valV (tabJ p n (tabI ps n i) j) (Sum.inr (vw p.1 j n)) = none := by simpa using hs
          walk_at "rd"
          rename_i H5 w6
          exact ⟨w6, se.put hp hj hc (fun v e => by rw [en] at e; cases e), fr.put hp hj hc, _, _, rfl⟩
      · obtain ⟨w5, se, fr, x2, x3, rfl⟩ := q
        rw [← tabI_at hp] at w5 se fr
        refine ⟨w5, fun k a c q hk hq ha hc => ?_, fr, _, _, _, rfl⟩
        by_cases e : k = i
        · subst e
          rw [hp] at hq
          cases hq
          exact se k a c p (.inr ⟨rfl, ha⟩) hp ha hc
        · exact se k a c q (.inl (by omega)) hq ha hc
    · obtain ⟨w4, se, fr, x1, x2, x3, rfl⟩ := p
      rw [List.length_map, tu.1] at w4 se fr
      walk_at "rd"
      exact k1 se.noclash se td H' w4.fr f3 (w4.at (by walk_at "mem"))
end
end TZ

namespace TZ
open PySem L2
/-! ### isinstance -/
section
variable {K : PySem.W.Frag} {H : Hp} {Q : VK} {a C dx : Addr} {xs : List V} {i : Int} {fs : List (Str × V)} {kvs : List (Key × V)}
theorem r_isTT (h : H a = some (.tup xs)) (k : Q (.bl true) H) : rIsi K [.ref a, .ty "tuple"] H Q := r_isi (ClsV.ty "tuple") (.base (.tup h)) (kit_ty (by decide +kernel)) k
theorem r_isII (k : Q (.bl true) H) : rIsi K [.int i, .ty "int"] H Q := r_isi (ClsV.ty "int") (.base (.int i)) (kit_ty (by decide +kernel)) k
theorem r_isIB (k : Q (.bl false) H) : rIsi K [.int i, .ty "bool"] H Q := r_isi (ClsV.ty "bool") (.base (.int i)) (kit_ty (by decide +kernel)) k
theorem r_isDD (h : H a = some (.dK kvs)) (k : Q (.bl true) H) : rIsi K [.ref a, .ty "dict"] H Q := r_isi (ClsV.ty "dict") (.base (.dK h)) (kit_ty (by decide +kernel)) k
theorem r_isCC (c : C8.InsC K C) (h : H a = some (.ins C dx fs)) (k : Q (.bl true) H) : rIsi K [.ref a, .ref C] H Q := r_isi (ClsV.own C) (.base (.ins h c.cl c.ha c.hn c.htk c.hm)) c.me k
end
/-! ### a call of an instance -/
structure CallX (P : Program) (w : World) (K : PySem.W.Frag) (mg : Str → Option Value) (base : Heap) (k : Nat) (C : Addr) (sp : Sp) : Prop where
  ex : ∃ (g : Addr) (fd : FuncData) (ps : List Str), StX.CallO K C g ∧ FnOk P w K mg base L2.CX0 k g fd ps sp ∧ Binds K fd ps []
theorem pe_callx {X : Cx} {k j : Nat} {C : Addr} {sp : Sp} {pos : Pos} {fe e : Expr} {es : List Expr} {tf : TE} {t : TA} (hf : PE X fe tf) (c : CallX X.prog X.w X.K X.mg X.base k C sp) (hr : Room j X.A) (hk : k ≤ j) (ha : PA X (e :: es) t)
    (ht : eval (.Call fe (e :: es) [] pos) X.env = (do callWith pos (← eval fe X.env) [] (backTo pos (starEach (e :: es) X.env)) (backToKw pos (keywordEach [] X.env))) := by rfl)
    (he : starEach (e :: es) X.env = (false, eval e X.env) :: starEach es X.env := by rfl) (hpl : (backTo pos (starEach es X.env)).any (·.1) = false := by rfl) : PE X (.Call fe (e :: es) [] pos) (StX.tCallO X C sp E0 tf t) := by
  obtain ⟨g, fd, ps, O, F, b⟩ := c.ex
  exact StX.pe_callO hf O ((F.raw b .nil).imp fun vs H Q E h => by rw [List.append_nil]; exact h) (hr.mono hk) pass0 ha ht he hpl
def Co0 (y : V) (R : Addr → Prop) : Prop := ∃ a, y = V.ref a ∧ R a
theorem r_callO {X : Cx} {C : Addr} {sp : Sp} {E : XK} {tf : TE} {tl : TA} {σ : L2.St} {H : Hp} {Q : VK} (k : tf σ H fun y H1 => Co0 y fun a => tl σ H1 fun vs H2 => StX.InsC X H2 a C ∧ sp (.ref a :: vs) H2 Q E) : StX.tCallO X C sp E tf tl σ H Q := k
theorem r_co0 {a : Addr} {R : Addr → Prop} (k : R a) : Co0 (.ref a) R := ⟨a, rfl, k⟩
theorem r_co1 {X : Cx} {H : Hp} {a C dx : Addr} {fs : List (Str × V)} {R : Prop} (h : H a = some (.ins C dx fs)) (k : R) : StX.InsC X H a C ∧ R := ⟨.inr ⟨dx, fs, h⟩, k⟩
/-! ### the keys of a locked dict -/
def KyQ (x : V) (H : Hp) (R : It → Hp → Prop) : Prop := ∃ d o, x = .ref d ∧ ((∃ kvs, H d = some (.frz o (.dK kvs)) ∧ R (Itk d o kvs) H) ∨ ∃ kvs, H d = some (.frz o (.dT kvs)) ∧ R (Itkt d o kvs) H)
theorem r_iKeys {te : TE} {σ : L2.St} {H : Hp} {R : It → Hp → Prop} (k : te σ H fun x H1 => KyQ x H1 R) : iKeys te σ H R := k
theorem r_KyQ {d : Addr} {o : Obj} {kvs : List (Key × V)} {H : Hp} {R : It → Hp → Prop} (h : H d = some (.frz o (.dK kvs))) (k : R (Itk d o kvs) H) : KyQ (.ref d) H R := ⟨d, o, rfl, .inl ⟨kvs, h, k⟩⟩
theorem f_keys {d : Addr} {o : Obj} {kvs : List (Key × V)} {g : TG} {tb : TS} {nx bk ct : L2.St → Hp → Prop} {rt : VK} {σ : L2.St} {H : Hp} (Pv : Nat → L2.St → Hp → Prop) (h0 : Pv 0 σ H) (hl : ∀ i σ H, Pv i σ H → H d = some (.frz o (.dK kvs)))
    (hs : ∀ (i : Nat) k v σ H, kvs[i]? = some (k, v) → Pv i σ H → g (kV k) σ H fun σ2 H2 => tb ⟨Pv (i + 1), rt, nx, Pv (i + 1)⟩ σ2 H2) (hd : ∀ σ H, Pv kvs.length σ H → nx σ H) : ForQ (Itk d o kvs) g tb ⟨nx, rt, bk, ct⟩ σ H := by
  refine ⟨fun i m σ H => m = kvs.length - i ∧ i ≤ kvs.length ∧ Pv i σ H, ⟨kvs.length, by simp, Nat.zero_le _, h0⟩, ?_⟩
  rintro i m σ H ⟨rfl, hi, p⟩
  have q := hl i σ H p
  by_cases hlt : i < kvs.length
  · refine .inr ⟨⟨q, hlt⟩, Pv (i + 1), fun σ' H' p' => ⟨kvs.length - (i + 1), by omega, rfl, hlt, p'⟩, fun x H' y => ?_⟩
    obtain ⟨rfl, k, v, hk, rfl⟩ := y
    exact hs i k v σ _ hk p
  · have e : i = kvs.length := by omega
    subst e
    exact .inl ⟨⟨q, Nat.le_refl _⟩, hd σ H p⟩
end TZ

namespace TZ
open PySem L2
local macro_rules | `(tactic| walk_at "rdd") => `(tactic| first | exact Or.inl (Wd.at (by assumption) (by walk_at "mem")) | exact Or.inr ⟨_, Wd.at (by assumption) (by walk_at "mem")⟩)
local macro_rules | `(tactic| walk_at "tp") => `(tactic| first | exact Wd.at (by assumption) (by walk_at "mem") | exact Wd.tup (by assumption) (by assumption) | assumption)
local macro_rules | `(tactic| walk_at "cd") => `(tactic| first | omega | exact ⟨by decide, by decide, by decide⟩ | exact Or.inl ⟨by decide, by decide⟩ | exact Or.inr ⟨by decide, by decide⟩ | exact Or.inl ⟨by omega, by omega⟩ | exact Or.inr ⟨by omega, by omega⟩ | exact ⟨by omega, by omega⟩)
local macro_rules | `(tactic| walk_at "mem") => `(tactic| ((repeat (first | exact List.Mem.head _ | apply List.Mem.tail)); done))
local macro_rules | `(tactic| walk_at "set") => `(tactic| (dsimp only [List.set]; try exact rfl))
local macro_rules | `(tactic| walk_at "seq") => `(tactic| exact sqL (Wd.at (by assumption) (by walk_at "mem")))
local macro_rules | `(tactic| walk_at "own") => `(tactic| first | exact Or.inl (by walk_at "mem") | exact Or.inr (by assumption))
local macro_rules | `(tactic| walk_at "hi") => `(tactic| first | exact (rfl : (_ : List (Addr × HO))[0]? = _) | exact (rfl : (_ : List (Addr × HO))[1]? = _) | exact (rfl : (_ : List (Addr × HO))[2]? = _) | exact (rfl : (_ : List (Addr × HO))[3]? = _) | exact (rfl : (_ : List (Addr × HO))[4]? = _) | exact (rfl : (_ : List (Addr × HO))[5]? = _) | exact (rfl : (_ : List (Addr × HO))[6]? = _) | exact (rfl : (_ : List (Addr × HO))[7]? = _) | exact (rfl : (_ : List (Addr × HO))[8]? = _) | exact (rfl : (_ : List (Addr × HO))[9]? = _))
local macro_rules | `(tactic| walk_at "sz") => `(tactic| first | (show _ ≤ sizeLine; decide) | (refine sz_ok ?_; first | omega | (simp only [List.length_cons, List.length_nil, List.length_map, PySem.Str.length_append] <;> omega) | (simp; done)) | (refine TZ.sz_lt ?_; first | omega | (simp only [List.length_cons, List.length_nil, List.length_map, List.length_append, PySem.Str.length_append] <;> omega) | (simp; done)))
local macro_rules | `(tactic| walk_at "rd1") => `(tactic| first
  | with_reducible refine' r_seq ?_
  | ((with_reducible refine' r_var ?hv ?_); (case hv => exact rfl))
  | with_reducible refine' r_c ?_
  | with_reducible refine' r_op ?_
  | with_reducible refine' r_I0 ?_
  | ((with_reducible refine' r_set ?hv ?_); (case hv => walk_at "set"))
  | with_reducible refine' r_asg ?_
  | with_reducible refine' r_cons ?_
  | with_reducible refine' r_nil ?_
  | with_reducible refine' r_cb ?_
  | with_reducible refine' r_call0 ?_
  | with_reducible refine' r_test ?_
  | with_reducible refine' r_B ?_
  | with_reducible refine' r_bl ?_
  | with_reducible refine' r_ifS ?_
  | with_reducible refine' r_and ?_
  | with_reducible refine' r_or ?_
  | with_reducible refine' r_not ?_
  | with_reducible refine' r_andV ?_
  | with_reducible refine' r_orV ?_
  | with_reducible refine' r_notV ?_
  | with_reducible refine' r_ifE ?_
  | with_reducible refine' r_eqI ?_
  | with_reducible refine' r_neI ?_
  | with_reducible refine' r_eqS ?_
  | with_reducible refine' r_neS ?_
  | ((with_reducible refine' r_eq ?hv ?_); (case hv => exact rfl))
  | ((with_reducible refine' r_ne ?hv ?_); (case hv => exact rfl))
  | with_reducible refine' r_ret ?_
  | with_reducible refine' r_retN ?_
  | with_reducible refine' r_drop ?_
  | with_reducible refine' r_next ?_
  | with_reducible refine' r_cont ?_
  | with_reducible refine' r_brk ?_
  | with_reducible refine' r_asgS ?_
  | with_reducible refine' r_asgT ?_
  | with_reducible refine' r_gN ?_
  | with_reducible refine' r_gc ?_
  | with_reducible refine' r_gn ?_
  | with_reducible refine' r_tup ?_
  | with_reducible refine' r_lst ?_
  | with_reducible refine' r_sl ?_
  | with_reducible refine' r_nopart ?_
  | with_reducible refine' r_part ?_
  | with_reducible refine' r_partI ?_
  | with_reducible refine' r_un ?_
  | with_reducible refine' r_U ?_
  | with_reducible refine' r_int1 ?_
  | with_reducible refine' r_l1 ?_
  | with_reducible refine' r_l2 ?_
  | with_reducible refine' r_sign ?_
  | with_reducible refine' r_refl ?_
  | with_reducible refine' r_bm ?_
  | with_reducible refine' r_bm0 ?_
  | ((with_reducible refine' r_I ?hv ?_); (case hv => walk_at "cd"))
  | ((with_reducible refine' r_ixL ?hs ?he ?_); (case hs => walk_at "seq"); (case he => first | assumption | exact rfl))
  | ((with_reducible refine' r_ixT ?hs ?he ?_); (case hs => walk_at "tp"); (case he => exact rfl))
  | ((with_reducible refine' r_lenL ?hs ?_); (case hs => walk_at "seq"))
  | ((with_reducible refine' r_lenT ?hs ?_); (case hs => walk_at "tp"))
  | ((with_reducible refine' r_tyL ?hs ?_); (case hs => walk_at "seq"))
  | ((with_reducible refine' r_setW ?w ?hi ?own ?e ?hy ?hL ?_); (case w => assumption); (case hi => walk_at "hi"); (case own => walk_at "own"); (case e => exact rfl); (case hy => walk_at "set"); (case hL => walk_at "set"); intro _ _)
  | ((with_reducible refine' r_mkT ?w ?hs ?_); (case w => assumption); (case hs => walk_at "sz"); intro _ _ _ _ _)
  | ((with_reducible refine' r_mkL ?w ?hs ?_); (case w => assumption); (case hs => walk_at "sz"); intro _ _ _ _ _)
  | with_reducible refine' r_for ?_
  | with_reducible refine' r_iList ?_
  | with_reducible refine' r_iRng1 ?_
  | with_reducible refine' r_iStr ?_
  | with_reducible refine' r_iEs ?_
  | with_reducible refine' r_iEl ?_
  | with_reducible refine' r_StQ ?_
  | with_reducible refine' r_EsQ ?_
  | ((with_reducible refine' r_RgQ ?hv ?_); (case hv => first | omega | assumption))
  | ((with_reducible refine' r_LsQ ?hs ?_); (case hs => walk_at "seq"))
  | ((with_reducible refine' r_ElQ ?hs ?_); (case hs => walk_at "seq"))
  | with_reducible refine' r_lc ?_
  | with_reducible refine' r_make ?_
  | with_reducible refine' r_dget ?_
  | with_reducible refine' r_din ?_
  | with_reducible refine' r_dnin ?_
  | with_reducible refine' r_dput ?_
  | with_reducible refine' r_dsetd ?_
  | with_reducible refine' r_fld ?_
  | with_reducible refine' r_fset ?_
  | ((with_reducible refine' r_dinS ?hs ?_); (case hs => walk_at "rdd"))
  | ((with_reducible refine' r_dgetS ?hs ?e ?_); (case hs => walk_at "rdd"); (case e => assumption))
  | ((with_reducible refine' r_ds0 ?hs ?_); (case hs => exact Wd.at (by assumption) (by walk_at "mem")))
  | ((with_reducible refine' r_dputS ?w ?hi ?own ?hl ?hL ?_); (case w => assumption); (case hi => walk_at "hi"); (case own => walk_at "own"); (case hl => first | assumption | walk_at "sz"); (case hL => walk_at "set"); intro _ _)
  | ((with_reducible refine' r_dnew ?w ?_); (case w => assumption); intro _ _ _ _ _)
  | ((with_reducible refine' r_lenD ?hs ?_); (case hs => exact Wd.at (by assumption) (by walk_at "mem")))
  | ((with_reducible refine' r_fldW ?hs ?c ?nf ?l ?_); (case hs => exact Wd.at (by assumption) (by walk_at "mem")); (case c => assumption); (case nf => assumption); (case l => exact rfl))
  | ((with_reducible refine' r_lenS ?hs ?_); (case hs => walk_at "sz"))
  | ((with_reducible refine' r_slS ?hs ?_); (case hs => walk_at "sz"))
  | ((with_reducible refine' r_cat ?hs ?_); (case hs => walk_at "sz"))
  | ((with_reducible refine' r_ixS ?hs ?e ?_); (case hs => walk_at "sz"); (case e => assumption))
  | ((with_reducible refine' r_appW ?w ?hi ?own ?e ?hL ?_); (case w => assumption); (case hi => walk_at "hi"); (case own => walk_at "own"); (case e => walk_at "sz"); (case hL => walk_at "set"); intro _ _)
  | ((with_reducible refine' r_viewS ?hz ?_); (case hz => omega))
  | ((with_reducible refine' r_wordW ?w ?ov ?_); (case w => assumption); (case ov => assumption); intro _ _)
  | ((with_reducible refine' r_nextS ?w ?hi ?hc ?own ?ne ?n0 ?n1 ?hL ?_); (case w => assumption); (case hi => walk_at "hi"); (case hc => walk_at "mem"); (case own => walk_at "own"); (case ne => assumption); (case n0 => omega); (case n1 => omega); (case hL => intro _ _ _; walk_at "set"); intro _ _ _ _ _ _ _ _)
  | ((with_reducible refine' r_gT ?h ?e ?_); (case h => walk_at "tp"); (case e => exact rfl))
  | with_reducible refine' r_callO ?_
  | with_reducible refine' r_co0 ?_
  | ((with_reducible refine' r_co1 ?h ?_); (case h => exact Wd.at (by assumption) (by walk_at "mem")))
  | with_reducible refine' r_iKeys ?_
  | ((with_reducible refine' r_KyQ ?h ?_); (case h => exact Wd.at (by assumption) (by walk_at "mem")))
  | ((with_reducible refine' r_isTT ?h ?_); (case h => walk_at "tp"))
  | with_reducible refine' r_isII ?_
  | with_reducible refine' r_isIB ?_
  | ((with_reducible refine' r_isDD ?h ?_); (case h => exact Wd.at (by assumption) (by walk_at "mem")))
  | ((with_reducible refine' r_isCC ?c ?h ?_); (case c => assumption); (case h => exact Wd.at (by assumption) (by walk_at "mem")))
  | with_reducible refine' r_ss ?_
  | with_reducible refine' ifNT ?_
  | with_reducible refine' ifNF ?_
  | with_reducible refine' ifT ?_
  | with_reducible refine' ifF ?_)
local macro_rules | `(tactic| walk_at "rd") => `(tactic| repeat walk_at "rd1")
local macro_rules | `(tactic| walk_at "br") => `(tactic| first | with_reducible refine' if2 (fun _ => ?_) (fun _ => ?_) | with_reducible refine' ifn2 (fun _ => ?_) (fun _ => ?_) | with_reducible refine' ifb (fun _ => ?_) (fun _ => ?_) | with_reducible refine' ifnb (fun _ => ?_) (fun _ => ?_))
local macro_rules | `(tactic| walk_at "rdb") => `(tactic| repeat' (first | walk_at "rd1" | walk_at "br"))
local macro_rules | `(tactic| walk_at "bro") => `(tactic| first | with_reducible refine if2 (fun h => (by exfalso; omega)) (fun _ => ?_) | with_reducible refine if2 (fun _ => ?_) (fun h => (by exfalso; omega)) | with_reducible refine ifn2 (fun h => (by exfalso; omega)) (fun _ => ?_) | with_reducible refine ifn2 (fun _ => ?_) (fun h => (by exfalso; omega)) | with_reducible refine if2 (fun _ => ?_) (fun h => absurd rfl h) | with_reducible refine ifn2 (fun h => absurd rfl h) (fun _ => ?_))
local macro_rules | `(tactic| walk_at "rdo") => `(tactic| repeat (first | walk_at "rd1" | walk_at "bro"))

section
variable {P : Program} {w : World} {K : PySem.W.Frag} {mg : Str → Option Value} {base : Heap} {ad : Ad}
abbrev s_law_integer : Stmt := topS 19
theorem sc_law_integer : FnScope ["actual"] ["actual"] (defScope s_law_integer) := ⟨rfl, rfl, rfl, by decide +kernel, rfl, by decide +kernel, by decide +kernel⟩
def spInteger : Sp := fun vs H Q E => ∃ i : Int, vs = [.int i] ∧ Q (.bl true) H
theorem w_law_integer (T : Txt K mg ad) {f : Addr} {fd : FuncData} (F : Fun K "_law_integer" "_law_integer" s_law_integer f fd) : FnOk P w K mg base L2.CX0 1 f fd ["actual"] spInteger := by
  refine F.ok sc_law_integer (fun vs H Q E h => ?_) (fun cdv A outer s H vs Q E hr h => ?_)
  · obtain ⟨i, rfl, _⟩ := h
    rfl
  · obtain ⟨i, rfl, k⟩ := h
    refine ⟨_, (pss_one (ps_ret (pe_and (pe_callB call_isi (by rfl) T.n_isinstance (by decide +kernel) (pa_cons (pv 0) (pa_cons (pe_bltn (v := .ty "int") (by rfl) T.n_int (by decide +kernel) rfl) pa_nil))) (pe_one (pe_not (pe_callB call_isi (by rfl) T.n_isinstance (by decide +kernel) (pa_cons (pv 0) (pa_cons (pe_bltn (v := .ty "bool") (by rfl) T.n_bool (by decide +kernel) rfl) pa_nil)))))))), ?_⟩
    try simp only [cxK, cxKX]
    show (_ : TS) (_ : Ends) [some _] _
    walk_at "rd"
    exact k
theorem r_integer {i : Int} {H : Hp} {Q : VK} {E : XK} (k : Q (.bl true) H) : spInteger [.int i] H Q E := ⟨i, rfl, k⟩
end
local macro_rules | `(tactic| walk_at "rdd") => `(tactic| first | exact Or.inl (Wd.at (by assumption) (by walk_at "mem")) | exact Or.inr ⟨_, Wd.at (by assumption) (by walk_at "mem")⟩)
local macro_rules | `(tactic| walk_at "tp") => `(tactic| first | exact Wd.at (by assumption) (by walk_at "mem") | exact Wd.tup (by assumption) (by assumption) | assumption)
local macro_rules | `(tactic| walk_at "cd") => `(tactic| first | omega | exact ⟨by decide, by decide, by decide⟩ | exact Or.inl ⟨by decide, by decide⟩ | exact Or.inr ⟨by decide, by decide⟩ | exact Or.inl ⟨by omega, by omega⟩ | exact Or.inr ⟨by omega, by omega⟩ | exact ⟨by omega, by omega⟩)
local macro_rules | `(tactic| walk_at "mem") => `(tactic| ((repeat (first | exact List.Mem.head _ | apply List.Mem.tail)); done))
local macro_rules | `(tactic| walk_at "set") => `(tactic| (dsimp only [List.set]; try exact rfl))
local macro_rules | `(tactic| walk_at "seq") => `(tactic| exact sqL (Wd.at (by assumption) (by walk_at "mem")))
local macro_rules | `(tactic| walk_at "own") => `(tactic| first | exact Or.inl (by walk_at "mem") | exact Or.inr (by assumption))
local macro_rules | `(tactic| walk_at "hi") => `(tactic| first | exact (rfl : (_ : List (Addr × HO))[0]? = _) | exact (rfl : (_ : List (Addr × HO))[1]? = _) | exact (rfl : (_ : List (Addr × HO))[2]? = _) | exact (rfl : (_ : List (Addr × HO))[3]? = _) | exact (rfl : (_ : List (Addr × HO))[4]? = _) | exact (rfl : (_ : List (Addr × HO))[5]? = _) | exact (rfl : (_ : List (Addr × HO))[6]? = _) | exact (rfl : (_ : List (Addr × HO))[7]? = _) | exact (rfl : (_ : List (Addr × HO))[8]? = _) | exact (rfl : (_ : List (Addr × HO))[9]? = _))
local macro_rules | `(tactic| walk_at "sz") => `(tactic| first | (show _ ≤ sizeLine; decide) | (refine sz_ok ?_; first | omega | (simp only [List.length_cons, List.length_nil, List.length_map, PySem.Str.length_append] <;> omega) | (simp; done)) | (refine TZ.sz_lt ?_; first | omega | (simp only [List.length_cons, List.length_nil, List.length_map, List.length_append, PySem.Str.length_append] <;> omega) | (simp; done)))
local macro_rules | `(tactic| walk_at "rd1") => `(tactic| first
  | with_reducible refine' r_seq ?_
  | ((with_reducible refine' r_var ?hv ?_); (case hv => exact rfl))
  | with_reducible refine' r_c ?_
  | with_reducible refine' r_op ?_
  | with_reducible refine' r_I0 ?_
  | ((with_reducible refine' r_set ?hv ?_); (case hv => walk_at "set"))
  | with_reducible refine' r_asg ?_
  | with_reducible refine' r_cons ?_
  | with_reducible refine' r_nil ?_
  | with_reducible refine' r_cb ?_
  | with_reducible refine' r_call0 ?_
  | with_reducible refine' r_test ?_
  | with_reducible refine' r_B ?_
  | with_reducible refine' r_bl ?_
  | with_reducible refine' r_ifS ?_
  | with_reducible refine' r_and ?_
  | with_reducible refine' r_or ?_
  | with_reducible refine' r_not ?_
  | with_reducible refine' r_andV ?_
  | with_reducible refine' r_orV ?_
  | with_reducible refine' r_notV ?_
  | with_reducible refine' r_ifE ?_
  | with_reducible refine' r_eqI ?_
  | with_reducible refine' r_neI ?_
  | with_reducible refine' r_eqS ?_
  | with_reducible refine' r_neS ?_
  | ((with_reducible refine' r_eq ?hv ?_); (case hv => exact rfl))
  | ((with_reducible refine' r_ne ?hv ?_); (case hv => exact rfl))
  | with_reducible refine' r_ret ?_
  | with_reducible refine' r_retN ?_
  | with_reducible refine' r_drop ?_
  | with_reducible refine' r_next ?_
  | with_reducible refine' r_cont ?_
  | with_reducible refine' r_brk ?_
  | with_reducible refine' r_asgS ?_
  | with_reducible refine' r_asgT ?_
  | with_reducible refine' r_gN ?_
  | with_reducible refine' r_gc ?_
  | with_reducible refine' r_gn ?_
  | with_reducible refine' r_tup ?_
  | with_reducible refine' r_lst ?_
  | with_reducible refine' r_sl ?_
  | with_reducible refine' r_nopart ?_
  | with_reducible refine' r_part ?_
  | with_reducible refine' r_partI ?_
  | with_reducible refine' r_un ?_
  | with_reducible refine' r_U ?_
  | with_reducible refine' r_int1 ?_
  | with_reducible refine' r_l1 ?_
  | with_reducible refine' r_l2 ?_
  | with_reducible refine' r_sign ?_
  | with_reducible refine' r_refl ?_
  | with_reducible refine' r_bm ?_
  | with_reducible refine' r_bm0 ?_
  | ((with_reducible refine' r_I ?hv ?_); (case hv => walk_at "cd"))
  | ((with_reducible refine' r_ixL ?hs ?he ?_); (case hs => walk_at "seq"); (case he => first | assumption | exact rfl))
  | ((with_reducible refine' r_ixT ?hs ?he ?_); (case hs => walk_at "tp"); (case he => exact rfl))
  | ((with_reducible refine' r_lenL ?hs ?_); (case hs => walk_at "seq"))
  | ((with_reducible refine' r_lenT ?hs ?_); (case hs => walk_at "tp"))
  | ((with_reducible refine' r_tyL ?hs ?_); (case hs => walk_at "seq"))
  | ((with_reducible refine' r_setW ?w ?hi ?own ?e ?hy ?hL ?_); (case w => assumption); (case hi => walk_at "hi"); (case own => walk_at "own"); (case e => exact rfl); (case hy => walk_at "set"); (case hL => walk_at "set"); intro _ _)
  | ((with_reducible refine' r_mkT ?w ?hs ?_); (case w => assumption); (case hs => walk_at "sz"); intro _ _ _ _ _)
  | ((with_reducible refine' r_mkL ?w ?hs ?_); (case w => assumption); (case hs => walk_at "sz"); intro _ _ _ _ _)
  | with_reducible refine' r_for ?_
  | with_reducible refine' r_iList ?_
  | with_reducible refine' r_iRng1 ?_
  | with_reducible refine' r_iStr ?_
  | with_reducible refine' r_iEs ?_
  | with_reducible refine' r_iEl ?_
  | with_reducible refine' r_StQ ?_
  | with_reducible refine' r_EsQ ?_
  | ((with_reducible refine' r_RgQ ?hv ?_); (case hv => first | omega | assumption))
  | ((with_reducible refine' r_LsQ ?hs ?_); (case hs => walk_at "seq"))
  | ((with_reducible refine' r_ElQ ?hs ?_); (case hs => walk_at "seq"))
  | with_reducible refine' r_lc ?_
  | with_reducible refine' r_make ?_
  | with_reducible refine' r_dget ?_
  | with_reducible refine' r_din ?_
  | with_reducible refine' r_dnin ?_
  | with_reducible refine' r_dput ?_
  | with_reducible refine' r_dsetd ?_
  | with_reducible refine' r_fld ?_
  | with_reducible refine' r_fset ?_
  | ((with_reducible refine' r_dinS ?hs ?_); (case hs => walk_at "rdd"))
  | ((with_reducible refine' r_dgetS ?hs ?e ?_); (case hs => walk_at "rdd"); (case e => assumption))
  | ((with_reducible refine' r_ds0 ?hs ?_); (case hs => exact Wd.at (by assumption) (by walk_at "mem")))
  | ((with_reducible refine' r_dputS ?w ?hi ?own ?hl ?hL ?_); (case w => assumption); (case hi => walk_at "hi"); (case own => walk_at "own"); (case hl => first | assumption | walk_at "sz"); (case hL => walk_at "set"); intro _ _)
  | ((with_reducible refine' r_dnew ?w ?_); (case w => assumption); intro _ _ _ _ _)
  | ((with_reducible refine' r_lenD ?hs ?_); (case hs => exact Wd.at (by assumption) (by walk_at "mem")))
  | ((with_reducible refine' r_fldW ?hs ?c ?nf ?l ?_); (case hs => exact Wd.at (by assumption) (by walk_at "mem")); (case c => assumption); (case nf => assumption); (case l => exact rfl))
  | ((with_reducible refine' r_lenS ?hs ?_); (case hs => walk_at "sz"))
  | ((with_reducible refine' r_slS ?hs ?_); (case hs => walk_at "sz"))
  | ((with_reducible refine' r_cat ?hs ?_); (case hs => walk_at "sz"))
  | ((with_reducible refine' r_ixS ?hs ?e ?_); (case hs => walk_at "sz"); (case e => assumption))
  | ((with_reducible refine' r_appW ?w ?hi ?own ?e ?hL ?_); (case w => assumption); (case hi => walk_at "hi"); (case own => walk_at "own"); (case e => walk_at "sz"); (case hL => walk_at "set"); intro _ _)
  | ((with_reducible refine' r_viewS ?hz ?_); (case hz => omega))
  | ((with_reducible refine' r_wordW ?w ?ov ?_); (case w => assumption); (case ov => assumption); intro _ _)
  | ((with_reducible refine' r_nextS ?w ?hi ?hc ?own ?ne ?n0 ?n1 ?hL ?_); (case w => assumption); (case hi => walk_at "hi"); (case hc => walk_at "mem"); (case own => walk_at "own"); (case ne => assumption); (case n0 => omega); (case n1 => omega); (case hL => intro _ _ _; walk_at "set"); intro _ _ _ _ _ _ _ _)
  | ((with_reducible refine' r_gT ?h ?e ?_); (case h => walk_at "tp"); (case e => exact rfl))
  | with_reducible refine' r_callO ?_
  | with_reducible refine' r_co0 ?_
  | ((with_reducible refine' r_co1 ?h ?_); (case h => exact Wd.at (by assumption) (by walk_at "mem")))
  | with_reducible refine' r_iKeys ?_
  | ((with_reducible refine' r_KyQ ?h ?_); (case h => exact Wd.at (by assumption) (by walk_at "mem")))
  | ((with_reducible refine' r_isTT ?h ?_); (case h => walk_at "tp"))
  | with_reducible refine' r_isII ?_
  | with_reducible refine' r_integer ?_
  | with_reducible refine' r_isIB ?_
  | ((with_reducible refine' r_isDD ?h ?_); (case h => exact Wd.at (by assumption) (by walk_at "mem")))
  | ((with_reducible refine' r_isCC ?c ?h ?_); (case c => assumption); (case h => exact Wd.at (by assumption) (by walk_at "mem")))
  | with_reducible refine' r_ss ?_
  | with_reducible refine' ifNT ?_
  | with_reducible refine' ifNF ?_
  | with_reducible refine' ifT ?_
  | with_reducible refine' ifF ?_)
local macro_rules | `(tactic| walk_at "rd") => `(tactic| repeat walk_at "rd1")
local macro_rules | `(tactic| walk_at "br") => `(tactic| first | with_reducible refine' if2 (fun _ => ?_) (fun _ => ?_) | with_reducible refine' ifn2 (fun _ => ?_) (fun _ => ?_) | with_reducible refine' ifb (fun _ => ?_) (fun _ => ?_) | with_reducible refine' ifnb (fun _ => ?_) (fun _ => ?_))
local macro_rules | `(tactic| walk_at "rdb") => `(tactic| repeat' (first | walk_at "rd1" | walk_at "br"))
local macro_rules | `(tactic| walk_at "bro") => `(tactic| first | with_reducible refine if2 (fun h => (by exfalso; omega)) (fun _ => ?_) | with_reducible refine if2 (fun _ => ?_) (fun h => (by exfalso; omega)) | with_reducible refine ifn2 (fun h => (by exfalso; omega)) (fun _ => ?_) | with_reducible refine ifn2 (fun _ => ?_) (fun h => (by exfalso; omega)) | with_reducible refine if2 (fun _ => ?_) (fun h => absurd rfl h) | with_reducible refine ifn2 (fun h => absurd rfl h) (fun _ => ?_))
local macro_rules | `(tactic| walk_at "rdo") => `(tactic| repeat (first | walk_at "rd1" | walk_at "bro"))

section
variable {P : Program} {w : World} {K : PySem.W.Frag} {mg : Str → Option Value} {base : Heap} {ad : Ad}
abbrev s_law_place : Stmt := topS 24
theorem sc_law_place : FnScope ["pairs", "place"] ["pairs", "place"] (defScope s_law_place) := ⟨rfl, rfl, rfl, by decide +kernel, rfl, by decide +kernel, by decide +kernel⟩
def spPlace : Sp := fun vs H Q E => ∃ (pl e : Addr) (ts : List Addr) (ps : List (Str × Str)) (k a : Nat) (p : Str × Str), vs = [.ref pl, .ref e] ∧ H pl = some (.lst (ts.map V.ref)) ∧ Tups H ts ps ∧ Small ps ∧ H e = some (.tup [.int k, .int a]) ∧ ps[k]? = some p ∧ a < p.1.length ∧ Q (.bl true) H
theorem w_law_place (T : Txt K mg ad) (c_law_integer : CalX P w K mg base L2.CX0 1 "_law_integer" spInteger) {f : Addr} {fd : FuncData} (F : Fun K "_law_place" "_law_place" s_law_place f fd) : FnOk P w K mg base L2.CX0 2 f fd ["pairs", "place"] spPlace := by
  refine F.ok sc_law_place (fun vs H Q E h => ?_) (fun cdv A outer s H vs Q E hr h => ?_)
  · obtain ⟨pl, e, ts, ps, k, a, p, rfl, _⟩ := h
    rfl
  · obtain ⟨pl, e, ts, ps, n, a, p, rfl, h1, tu, sm, he, hp, ha, k⟩ := h
    have w0 : Wd H [] H [(pl, .lst (ts.map V.ref))] := .here _ (by simp) (by simpa using h1)
    have nl : n < ps.length := (List.getElem?_eq_some_iff.mp hp).1
    have tl : (ts.map V.ref).length = ps.length := by rw [List.length_map, tu.1]
    obtain ⟨t0, ht0⟩ : ∃ t0, ts[n]? = some t0 := ⟨ts[n]'(by rw [tu.1]; exact nl), by simp⟩
    have e1 : atI (ts.map V.ref) (n : Int) = some (.ref t0) := atI_nat (by rw [List.getElem?_map, ht0]; rfl)
    have tt0 := tu.2 n t0 p ht0 hp
    have s1 := (sm.2 p (List.mem_of_getElem? hp)).1
    refine ⟨_, (pss_cons (ps_if (PW.pt (pw_or (pt_not (pt_val (pe_callB call_isi (by rfl) T.n_isinstance (by decide +kernel) (pa_cons (pv 1) (pa_cons (pe_bltn (v := .ty "tuple") (by rfl) T.n_tuple (by decide +kernel) rfl) pa_nil))))) (pw_or1 (pt_cmpR op_ne (pe_callB call_len_seq (by rfl) T.n_len (by decide +kernel) (pa_cons (pv 1) pa_nil)) pe_int (nomark _))))) (pss_one (ps_ret pe_bl)) pss_nil)
    (pss_cons (ps_if (PW.pt (pw_or (pt_not (pt_val (pe_cx c_law_integer hr (by decide) rfl pass0 (pa_cons (pe_ix ix_tup (pv 1) pe_int (fun _ _ => rfl)) pa_nil)))) (pw_or1 (pt_not (pt_val (pe_cx c_law_integer hr (by decide) rfl pass0 (pa_cons (pe_ix ix_tup (pv 1) pe_int (fun _ _ => rfl)) pa_nil))))))) (pss_one (ps_ret pe_bl)) pss_nil)
    (pss_cons (ps_if (PW.pt (pw_or (pt_cmpR op_lt (pe_ix ix_tup (pv 1) pe_int (fun _ _ => rfl)) pe_int (nomark _)) (pw_or1 (pt_cmpR op_ge (pe_ix ix_tup (pv 1) pe_int (fun _ _ => rfl)) (pe_callB call_len_seq (by rfl) T.n_len (by decide +kernel) (pa_cons (pv 0) pa_nil)) (nomark _))))) (pss_one (ps_ret pe_bl)) pss_nil)
    (pss_one (ps_ret (pe_and (pe_cmpR op_ge (pe_ix ix_tup (pv 1) pe_int (fun _ _ => rfl)) pe_int (nomark _)) (pe_one (pe_cmpR op_lt (pe_ix ix_tup (pv 1) pe_int (fun _ _ => rfl)) (pe_callB call_len_str (by rfl) T.n_len (by decide +kernel) (pa_cons (pe_ix ix_tup (pe_ix ix_list (pv 0) (pe_ix ix_tup (pv 1) pe_int (fun _ _ => rfl)) (fun _ _ => rfl)) pe_int (fun _ _ => rfl)) pa_nil)) (nomark _))))))))), ?_⟩
    try simp only [cxK, cxKX]
    show (_ : TS) (_ : Ends) [some _, some _] _
    walk_at "rd"
    walk_at "rdo"
    rw [decide_eq_true (by omega)]
    exact k
theorem r_place {pl e : Addr} {ts : List Addr} {ps : List (Str × Str)} {k a : Nat} {p : Str × Str} {H : Hp} {Q : VK} {E : XK} (h1 : H pl = some (.lst (ts.map V.ref))) (tu : Tups H ts ps) (sm : Small ps) (he : H e = some (.tup [.int k, .int a])) (hp : ps[k]? = some p) (ha : a < p.1.length) (q : Q (.bl true) H) : spPlace [.ref pl, .ref e] H Q E :=
  ⟨pl, e, ts, ps, k, a, p, rfl, h1, tu, sm, he, hp, ha, q⟩
abbrev s_law_clash : Stmt := topS 25
theorem sc_law_clash : FnScope ["pairs", "size", "answer", "one", "two"] ["pairs", "size", "answer"] (defScope s_law_clash) := ⟨rfl, rfl, rfl, by decide +kernel, rfl, by decide +kernel, by decide +kernel⟩
def spLClash : Sp := fun vs H Q E => ∃ (pl r e1 e2 : Addr) (ts : List Addr) (ps : List (Str × Str)) (n : Int) (k a k' a' : Nat), vs = [.ref pl, .int n, .ref r] ∧ H pl = some (.lst (ts.map V.ref)) ∧ Tups H ts ps ∧ Small ps ∧ H r = some (.tup [.str "clash", .ref e1, .ref e2]) ∧ H e1 = some (.tup [.int k, .int a]) ∧ H e2 = some (.tup [.int k', .int a']) ∧ ClashAt ps n k a k' a' ∧ Q (.bl true) H
theorem w_law_clash (T : Txt K mg ad) (c_law_place : CalX P w K mg base L2.CX0 2 "_law_place" spPlace) (c_law_view : CalX P w K mg base L2.CX0 1 "_law_view" spView) {f : Addr} {fd : FuncData} (F : Fun K "_law_clash" "_law_clash" s_law_clash f fd) : FnOk P w K mg base L2.CX0 3 f fd ["pairs", "size", "answer"] spLClash := by
  refine F.ok sc_law_clash (fun vs H Q E h => ?_) (fun cdv A outer s H vs Q E hr h => ?_)
  · obtain ⟨pl, r, e1, e2, ts, ps, n, k, a, k', a', rfl, _⟩ := h
    rfl
  · obtain ⟨pl, r, e1, e2, ts, ps, n, k, a, k', a', rfl, h1, tu, sm, hr0, he1, he2, ⟨p, q, c, d, hp, hq, ha, ha', hv, hc, hd, ne⟩, Q1⟩ := h
    have w0 : Wd H [] H [(pl, .lst (ts.map V.ref))] := .here _ (by simp) (by simpa using h1)
    have gt : ∀ {k : Nat} {p : Str × Str}, ps[k]? = some p → ∃ t0, atI (ts.map V.ref) (k : Int) = some (.ref t0) ∧ H t0 = some (.tup [.str p.1, .str p.2]) ∧ p.1.length ≤ 100 ∧ p.2.length ≤ 100 := fun {k p} hp => by
      have nl : k < ps.length := (List.getElem?_eq_some_iff.mp hp).1
      obtain ⟨t0, ht0⟩ : ∃ t0, ts[k]? = some t0 := ⟨ts[k]'(by rw [tu.1]; exact nl), by simp⟩
      exact ⟨t0, atI_nat (by rw [List.getElem?_map, ht0]; rfl), tu.2 k t0 p ht0 hp, sm.2 p (List.mem_of_getElem? hp)⟩
    obtain ⟨t1, i1, tt1, s1, s2⟩ := gt hp
    obtain ⟨t2, i2, tt2, s3, s4⟩ := gt hq
    have ec : atI p.2.cps.toList (a : Int) = some c := atI_nat (by simpa using hc)
    have ed : atI q.2.cps.toList (a' : Int) = some d := atI_nat (by simpa using hd)
    refine ⟨_, (pss_cons (ps_if (PW.pt (pw_or (pt_cmpR op_ne (pe_callB call_len_seq (by rfl) T.n_len (by decide +kernel) (pa_cons (pv 2) pa_nil)) pe_int (nomark _)) (pw_or (pt_not (pt_val (pe_cx c_law_place hr (by decide) rfl pass0 (pa_cons (pv 0) (pa_cons (pe_ix ix_tup (pv 2) pe_int (fun _ _ => rfl)) pa_nil))))) (pw_or1 (pt_not (pt_val (pe_cx c_law_place hr (by decide) rfl pass0 (pa_cons (pv 0) (pa_cons (pe_ix ix_tup (pv 2) pe_int (fun _ _ => rfl)) pa_nil))))))))) (pss_one (ps_ret pe_bl)) pss_nil)
    (pss_cons (ps_set (i := 3) sc_law_clash.nd rfl (Or.inl rfl) (pe_ix ix_list (pv 0) (pe_ix ix_tup (pe_ix ix_tup (pv 2) pe_int (fun _ _ => rfl)) pe_int (fun _ _ => rfl)) (fun _ _ => rfl)))
    (pss_cons (ps_set (i := 4) sc_law_clash.nd rfl (Or.inl rfl) (pe_ix ix_list (pv 0) (pe_ix ix_tup (pe_ix ix_tup (pv 2) pe_int (fun _ _ => rfl)) pe_int (fun _ _ => rfl)) (fun _ _ => rfl)))
    (pss_cons (ps_if (pt_cmpR op_ne (pe_cx c_law_view hr (by decide) rfl pass0 (pa_cons (pe_ix ix_tup (pv 3) pe_int (fun _ _ => rfl)) (pa_cons (pe_ix ix_tup (pe_ix ix_tup (pv 2) pe_int (fun _ _ => rfl)) pe_int (fun _ _ => rfl)) (pa_cons (pv 1) pa_nil)))) (pe_cx c_law_view hr (by decide) rfl pass0 (pa_cons (pe_ix ix_tup (pv 4) pe_int (fun _ _ => rfl)) (pa_cons (pe_ix ix_tup (pe_ix ix_tup (pv 2) pe_int (fun _ _ => rfl)) pe_int (fun _ _ => rfl)) (pa_cons (pv 1) pa_nil)))) (nomark _)) (pss_one (ps_ret pe_bl)) pss_nil)
    (pss_one (ps_ret (pe_cmpR op_ne (pe_ix ix_str (pe_ix ix_tup (pv 3) pe_int (fun _ _ => rfl)) (pe_ix ix_tup (pe_ix ix_tup (pv 2) pe_int (fun _ _ => rfl)) pe_int (fun _ _ => rfl)) (fun _ _ => rfl)) (pe_ix ix_str (pe_ix ix_tup (pv 4) pe_int (fun _ _ => rfl)) (pe_ix ix_tup (pe_ix ix_tup (pv 2) pe_int (fun _ _ => rfl)) pe_int (fun _ _ => rfl)) (fun _ _ => rfl)) (nomark _)))))))), ?_⟩
    try simp only [cxK, cxKX]
    show (_ : TS) (_ : Ends) [some _, some _, some _, none, none] _
    walk_at "rd"
    walk_at "rdo"
    refine r_place h1 tu sm he1 hp ha ?_
    walk_at "rdo"
    refine r_place h1 tu sm he2 hq ha' ?_
    walk_at "rdo"
    refine ifn2 (fun hn => absurd hv hn) (fun _ => ?_)
    walk_at "rdo"
    have cd : ¬ ((⟨#[c]⟩ : Str) = ⟨#[d]⟩) := fun z => ne (by simpa using z)
    rw [decide_eq_false cd]
    exact Q1
end
end TZ

namespace TZ
open PySem L2
theorem r_lock {t : TS} {nx bk ct : L2.St → Hp → Prop} {rt : VK} {σ : L2.St} {H : Hp} {d : Addr} {u : HO} (h : H d = some u) (mu : Mut (some u))
    (k : ∀ od, t ⟨fun σ' H' => H' d = some (.frz od u) ∧ nx σ' (upd H' d u), fun v H' => H' d = some (.frz od u) ∧ rt v (upd H' d u), fun σ' H' => H' d = some (.frz od u) ∧ bk σ' (upd H' d u), fun σ' H' => H' d = some (.frz od u) ∧ ct σ' (upd H' d u)⟩ σ (upd H d (.frz od u))) : tLock t ⟨nx, rt, bk, ct⟩ σ H := ⟨d, u, h, mu, k⟩
theorem upd_back {H : Hp} {d : Addr} {u o : HO} (h : H d = some u) : upd (upd H d o) d u = H := by
  funext b
  by_cases e : b = d
  · rw [e, upd_same, h]
  · rw [upd_ne e, upd_ne e]
theorem valV_at {kvs : List (Key × V)} {i : Nat} {k : Key} {v : V} (h : kvs[i]? = some (k, v)) : ∃ v', valV kvs k = some v' := by
  cases e : valV kvs k with
  | some v' => exact ⟨v', rfl⟩
  | none => exact absurd (List.mem_map_of_mem (f := (·.1)) (List.mem_of_getElem? h)) (valV_not e)
local macro_rules | `(tactic| walk_at "obj") => `(tactic| first | exact Wd.at (by assumption) (by walk_at "mem") | exact Wd.keep (by assumption) (by assumption) (by simp) | exact Wd.tup (by assumption) (by assumption) | assumption)
local macro_rules | `(tactic| walk_at "seq") => `(tactic| first | exact sqL (Wd.at (by assumption) (by walk_at "mem")) | exact sqL (Wd.keep (by assumption) (by assumption) (by simp)) | assumption)
local macro_rules | `(tactic| walk_at "rdd") => `(tactic| first | exact Or.inl (Wd.at (by assumption) (by walk_at "mem")) | exact Or.inr ⟨_, Wd.at (by assumption) (by walk_at "mem")⟩ | exact Or.inl (Wd.keep (by assumption) (by assumption) (by simp)))
local macro_rules | `(tactic| walk_at "cd") => `(tactic| first | omega | exact ⟨by decide, by decide, by decide⟩ | exact Or.inl ⟨by decide, by decide⟩ | exact Or.inr ⟨by decide, by decide⟩ | exact Or.inl ⟨by omega, by omega⟩ | exact Or.inr ⟨by omega, by omega⟩ | exact ⟨by omega, by omega⟩)
local macro_rules | `(tactic| walk_at "mem") => `(tactic| ((repeat (first | exact List.Mem.head _ | apply List.Mem.tail)); done))
local macro_rules | `(tactic| walk_at "set") => `(tactic| (dsimp only [List.set]; try exact rfl))
local macro_rules | `(tactic| walk_at "own") => `(tactic| first | exact Or.inl (by walk_at "mem") | exact Or.inr (by assumption))
local macro_rules | `(tactic| walk_at "hi") => `(tactic| first | exact (rfl : (_ : List (Addr × HO))[0]? = _) | exact (rfl : (_ : List (Addr × HO))[1]? = _) | exact (rfl : (_ : List (Addr × HO))[2]? = _) | exact (rfl : (_ : List (Addr × HO))[3]? = _) | exact (rfl : (_ : List (Addr × HO))[4]? = _) | exact (rfl : (_ : List (Addr × HO))[5]? = _) | exact (rfl : (_ : List (Addr × HO))[6]? = _) | exact (rfl : (_ : List (Addr × HO))[7]? = _) | exact (rfl : (_ : List (Addr × HO))[8]? = _) | exact (rfl : (_ : List (Addr × HO))[9]? = _))
local macro_rules | `(tactic| walk_at "sz") => `(tactic| first | (show _ ≤ sizeLine; decide) | (refine sz_ok ?_; first | omega | (simp only [List.length_cons, List.length_nil, List.length_map, PySem.Str.length_append] <;> omega) | (simp; done)) | (refine TZ.sz_lt ?_; first | omega | (simp only [List.length_cons, List.length_nil, List.length_map, List.length_append, PySem.Str.length_append] <;> omega) | (simp; done)))
local macro_rules | `(tactic| walk_at "rd1") => `(tactic| first
  | with_reducible refine' r_seq ?_
  | ((with_reducible refine' r_var ?hv ?_); (case hv => exact rfl))
  | with_reducible refine' r_c ?_
  | with_reducible refine' r_op ?_
  | with_reducible refine' r_I0 ?_
  | ((with_reducible refine' r_set ?hv ?_); (case hv => walk_at "set"))
  | with_reducible refine' r_asg ?_
  | with_reducible refine' r_cons ?_
  | with_reducible refine' r_nil ?_
  | with_reducible refine' r_cb ?_
  | with_reducible refine' r_call0 ?_
  | with_reducible refine' r_test ?_
  | with_reducible refine' r_B ?_
  | with_reducible refine' r_bl ?_
  | with_reducible refine' r_ifS ?_
  | with_reducible refine' r_and ?_
  | with_reducible refine' r_or ?_
  | with_reducible refine' r_not ?_
  | with_reducible refine' r_andV ?_
  | with_reducible refine' r_orV ?_
  | with_reducible refine' r_notV ?_
  | with_reducible refine' r_ifE ?_
  | with_reducible refine' r_eqI ?_
  | with_reducible refine' r_neI ?_
  | with_reducible refine' r_eqS ?_
  | with_reducible refine' r_neS ?_
  | ((with_reducible refine' r_eq ?hv ?_); (case hv => exact rfl))
  | ((with_reducible refine' r_ne ?hv ?_); (case hv => exact rfl))
  | with_reducible refine' r_ret ?_
  | with_reducible refine' r_retN ?_
  | with_reducible refine' r_drop ?_
  | with_reducible refine' r_next ?_
  | with_reducible refine' r_cont ?_
  | with_reducible refine' r_brk ?_
  | with_reducible refine' r_asgS ?_
  | with_reducible refine' r_asgT ?_
  | with_reducible refine' r_gN ?_
  | with_reducible refine' r_gc ?_
  | with_reducible refine' r_gn ?_
  | with_reducible refine' r_tup ?_
  | with_reducible refine' r_lst ?_
  | with_reducible refine' r_sl ?_
  | with_reducible refine' r_nopart ?_
  | with_reducible refine' r_part ?_
  | with_reducible refine' r_partI ?_
  | with_reducible refine' r_un ?_
  | with_reducible refine' r_U ?_
  | with_reducible refine' r_int1 ?_
  | with_reducible refine' r_l1 ?_
  | with_reducible refine' r_l2 ?_
  | with_reducible refine' r_sign ?_
  | with_reducible refine' r_refl ?_
  | with_reducible refine' r_bm ?_
  | with_reducible refine' r_bm0 ?_
  | ((with_reducible refine' r_I ?hv ?_); (case hv => walk_at "cd"))
  | ((with_reducible refine' r_ixL ?hs ?he ?_); (case hs => walk_at "seq"); (case he => first | assumption | exact rfl))
  | ((with_reducible refine' r_ixT ?hs ?he ?_); (case hs => walk_at "obj"); (case he => exact rfl))
  | ((with_reducible refine' r_lenL ?hs ?_); (case hs => walk_at "seq"))
  | ((with_reducible refine' r_lenT ?hs ?_); (case hs => walk_at "obj"))
  | ((with_reducible refine' r_tyL ?hs ?_); (case hs => walk_at "seq"))
  | ((with_reducible refine' r_setW ?w ?hi ?own ?e ?hy ?hL ?_); (case w => assumption); (case hi => walk_at "hi"); (case own => walk_at "own"); (case e => exact rfl); (case hy => walk_at "set"); (case hL => walk_at "set"); intro _ _)
  | ((with_reducible refine' r_mkT ?w ?hs ?_); (case w => assumption); (case hs => walk_at "sz"); intro _ _ _ _ _)
  | ((with_reducible refine' r_mkL ?w ?hs ?_); (case w => assumption); (case hs => walk_at "sz"); intro _ _ _ _ _)
  | with_reducible refine' r_for ?_
  | with_reducible refine' r_iList ?_
  | with_reducible refine' r_iRng1 ?_
  | with_reducible refine' r_iStr ?_
  | with_reducible refine' r_iEs ?_
  | with_reducible refine' r_iEl ?_
  | with_reducible refine' r_StQ ?_
  | with_reducible refine' r_EsQ ?_
  | ((with_reducible refine' r_RgQ ?hv ?_); (case hv => first | omega | assumption))
  | ((with_reducible refine' r_LsQ ?hs ?_); (case hs => walk_at "seq"))
  | ((with_reducible refine' r_ElQ ?hs ?_); (case hs => walk_at "seq"))
  | with_reducible refine' r_lc ?_
  | with_reducible refine' r_make ?_
  | with_reducible refine' r_dget ?_
  | with_reducible refine' r_din ?_
  | with_reducible refine' r_dnin ?_
  | with_reducible refine' r_dput ?_
  | with_reducible refine' r_dsetd ?_
  | with_reducible refine' r_fld ?_
  | with_reducible refine' r_fset ?_
  | ((with_reducible refine' r_dinS ?hs ?_); (case hs => walk_at "rdd"))
  | ((with_reducible refine' r_dgetS ?hs ?e ?_); (case hs => walk_at "rdd"); (case e => assumption))
  | ((with_reducible refine' r_ds0 ?hs ?_); (case hs => walk_at "obj"))
  | ((with_reducible refine' r_dputS ?w ?hi ?own ?hl ?hL ?_); (case w => assumption); (case hi => walk_at "hi"); (case own => walk_at "own"); (case hl => first | assumption | walk_at "sz"); (case hL => walk_at "set"); intro _ _)
  | ((with_reducible refine' r_dnew ?w ?_); (case w => assumption); intro _ _ _ _ _)
  | ((with_reducible refine' r_lenD ?hs ?_); (case hs => walk_at "obj"))
  | ((with_reducible refine' r_fldW ?hs ?c ?nf ?l ?_); (case hs => walk_at "obj"); (case c => assumption); (case nf => assumption); (case l => exact rfl))
  | ((with_reducible refine' r_lenS ?hs ?_); (case hs => walk_at "sz"))
  | ((with_reducible refine' r_slS ?hs ?_); (case hs => walk_at "sz"))
  | ((with_reducible refine' r_cat ?hs ?_); (case hs => walk_at "sz"))
  | ((with_reducible refine' r_ixS ?hs ?e ?_); (case hs => walk_at "sz"); (case e => assumption))
  | ((with_reducible refine' r_appW ?w ?hi ?own ?e ?hL ?_); (case w => assumption); (case hi => walk_at "hi"); (case own => walk_at "own"); (case e => walk_at "sz"); (case hL => walk_at "set"); intro _ _)
  | ((with_reducible refine' r_viewS ?hz ?_); (case hz => omega))
  | ((with_reducible refine' r_wordW ?w ?ov ?_); (case w => assumption); (case ov => assumption); intro _ _)
  | ((with_reducible refine' r_nextS ?w ?hi ?hc ?own ?ne ?n0 ?n1 ?hL ?_); (case w => assumption); (case hi => walk_at "hi"); (case hc => walk_at "mem"); (case own => walk_at "own"); (case ne => assumption); (case n0 => omega); (case n1 => omega); (case hL => intro _ _ _; walk_at "set"); intro _ _ _ _ _ _ _ _)
  | ((with_reducible refine' r_gT ?h ?e ?_); (case h => walk_at "obj"); (case e => exact rfl))
  | with_reducible refine' r_callO ?_
  | with_reducible refine' r_co0 ?_
  | ((with_reducible refine' r_co1 ?h ?_); (case h => walk_at "obj"))
  | with_reducible refine' r_iKeys ?_
  | ((with_reducible refine' r_KyQ ?h ?_); (case h => walk_at "obj"))
  | ((with_reducible refine' r_isTT ?h ?_); (case h => walk_at "obj"))
  | with_reducible refine' r_isII ?_
  | with_reducible refine' r_integer ?_
  | with_reducible refine' r_isIB ?_
  | ((with_reducible refine' r_isDD ?h ?_); (case h => walk_at "obj"))
  | ((with_reducible refine' r_isCC ?c ?h ?_); (case c => assumption); (case h => walk_at "obj"))
  | with_reducible refine' r_ss ?_
  | with_reducible refine' ifNT ?_
  | with_reducible refine' ifNF ?_
  | with_reducible refine' ifT ?_
  | with_reducible refine' ifF ?_)
local macro_rules | `(tactic| walk_at "rd") => `(tactic| repeat walk_at "rd1")
local macro_rules | `(tactic| walk_at "br") => `(tactic| first | with_reducible refine' if2 (fun _ => ?_) (fun _ => ?_) | with_reducible refine' ifn2 (fun _ => ?_) (fun _ => ?_) | with_reducible refine' ifb (fun _ => ?_) (fun _ => ?_) | with_reducible refine' ifnb (fun _ => ?_) (fun _ => ?_))
local macro_rules | `(tactic| walk_at "rdb") => `(tactic| repeat' (first | walk_at "rd1" | walk_at "br"))
local macro_rules | `(tactic| walk_at "bro") => `(tactic| first | with_reducible refine if2 (fun h => (by exfalso; omega)) (fun _ => ?_) | with_reducible refine if2 (fun _ => ?_) (fun h => (by exfalso; omega)) | with_reducible refine ifn2 (fun h => (by exfalso; omega)) (fun _ => ?_) | with_reducible refine ifn2 (fun _ => ?_) (fun h => (by exfalso; omega)) | with_reducible refine if2 (fun _ => ?_) (fun h => absurd rfl h) | with_reducible refine ifn2 (fun h => absurd rfl h) (fun _ => ?_) | with_reducible refine if2 (fun h => nomatch h) (fun _ => ?_) | with_reducible refine ifn2 (fun _ => ?_) (fun h => nomatch h))
local macro_rules | `(tactic| walk_at "rdo") => `(tactic| repeat (first | walk_at "rd1" | walk_at "bro"))

section
variable {P : Program} {w : World} {K : PySem.W.Frag} {mg : Str → Option Value} {base : Heap} {ad : Ad}
/-! ### _law_good_turner -/
abbrev s_law_good_turner : Stmt := topS 27
theorem sc_law_good_turner : FnScope ["turner", "letters", "images", "size", "table", "pairs", "more", "view", "pair", "word", "due", "told"] ["turner", "letters", "images", "size", "table", "pairs", "more"] (defScope s_law_good_turner) := ⟨rfl, rfl, rfl, by decide +kernel, rfl, by decide +kernel, by decide +kernel⟩
def spGood (C : Addr) : Sp := fun vs H Q E => ∃ (tp dx d td pl ml : Addr) (ls im : Str) (n : Int) (kvs : List (Key × V)) (ts : List Addr) (ps : List (Str × Str)) (mws : List Str), vs = [.ref tp, .str ls, .str im, .int n, .ref td, .ref pl, .ref ml] ∧
  H tp = some (.ins C dx (tFs ls im n d)) ∧ H d = some (.dK kvs) ∧ H td = some (.dK kvs) ∧ d ≠ td ∧ DictOk kvs ∧ kvs.length ≤ 100000 ∧ (∀ (i : Nat) (k : Key) (v : V), kvs[i]? = some (k, v) → ∃ s, k = Sum.inr s) ∧ H pl = some (.lst (ts.map V.ref)) ∧ Tups H ts ps ∧ Small ps ∧ (∀ p ∈ ps, Over ls p.1) ∧ (∀ p ∈ ps, imgK kvs p.1 n p.1.length = some p.2) ∧
  H ml = some (.lst (mws.map V.str)) ∧ (∀ z ∈ mws, Over ls z ∧ z.length ≤ 1000) ∧ ∀ H', Frm [] H H' → Q (.bl true) H'
theorem w_law_good_turner (T : Txt K mg ad) (c_call_Turner : CallX P w K mg base 4 ad.tu (spTCall ad.tu)) (c_law_due_image : CalX P w K mg base L2.CX0 2 "_law_due_image" spDue) {f : Addr} {fd : FuncData} (F : Fun K "_law_good_turner" "_law_good_turner" s_law_good_turner f fd) : FnOk P w K mg base L2.CX0 5 f fd ["turner", "letters", "images", "size", "table", "pairs", "more"] (spGood ad.tu) := by
  refine F.ok sc_law_good_turner (fun vs H Q E h => ?_) (fun cdv A outer s H vs Q E hr h => ?_)
  · obtain ⟨tp, dx, d, td, pl, ml, ls, im, n, kvs, ts, ps, mws, rfl, _⟩ := h
    rfl
  · obtain ⟨tp, dx, d, td, pl, ml, ls, im, n, kvs, ts, ps, mws, rfl, h1, h2, h3, ndt, dk, kl, ks, h4, tu, sm, ovp, imp, h5, ovm, Q1⟩ := h
    have hu := hu_of hr
    have c1 := T.inT.cl
    have cc := T.inT
    have n1 := T.nLe
    have n2 := T.nIm
    have n3 := T.nSi
    have n4 := T.nTa
    have w0 : Wd H [td] H [(td, .dK kvs), (tp, .ins ad.tu dx (tFs ls im n d)), (d, .dK kvs)] := .here _ (by
      have e1 : td ≠ tp := ne_of h3 h1 (by intro z; cases z)
      have e2 : tp ≠ d := ne_of h1 h2 (by intro z; cases z)
      simp [e1, e2, Ne.symm ndt]) (by
      intro p hp
      rcases List.mem_cons.mp hp with rfl | hp
      · exact h3
      · rcases List.mem_cons.mp hp with rfl | hp
        · exact h1
        · rcases List.mem_cons.mp hp with rfl | hp
          · exact h2
          · cases hp)
    refine ⟨_, (pss_cons (ps_if (PW.pt (pw_or (pt_not (pt_val (pe_callB call_isi (by rfl) T.n_isinstance (by decide +kernel) (pa_cons (pv 0) (pa_cons (pe_gr rfl T.g_Turner) pa_nil))))) (pw_or (pt_cmpR op_ne (pe_fld (pv 0) rfl) (pv 1) (nomark _)) (pw_or1 (pt_cmpR op_ne (pe_fld (pv 0) rfl) (pv 2) (nomark _)))))) (pss_one (ps_ret pe_bl)) pss_nil)
    (pss_cons (ps_if (PW.pt (pw_or (pt_cmpR op_ne (pe_fld (pv 0) rfl) (pv 3) (nomark _)) (pw_or (pt_not (pt_val (pe_callB call_isi (by rfl) T.n_isinstance (by decide +kernel) (pa_cons (pe_fld (pv 0) rfl) (pa_cons (pe_bltn (v := .ty "dict") (by rfl) T.n_dict (by decide +kernel) rfl) pa_nil))))) (pw_or1 (pt_cmpR op_ne (pe_callB call_lenD (by rfl) T.n_len (by decide +kernel) (pa_cons (pe_fld (pv 0) rfl) pa_nil)) (pe_callB call_lenD (by rfl) T.n_len (by decide +kernel) (pa_cons (pv 4) pa_nil)) (nomark _)))))) (pss_one (ps_ret pe_bl)) pss_nil)
    (pss_cons (ps_lock (ps_for PassesOwn.never rfl (pi_keys (pv 4)) (pg_name (i := 7) sc_law_good_turner.nd rfl (Or.inl rfl))
      (pss_one (ps_if (PW.pt (pw_or (pt_cmp (pc_dnotin hu (pv 7) (pe_fld (pv 0) rfl))) (pw_or1 (pt_cmpR op_ne (pe_dget hu (pe_fld (pv 0) rfl) (pv 7) (fun _ _ => rfl)) (pe_dget hu (pv 4) (pv 7) (fun _ _ => rfl)) (nomark _))))) (pss_one (ps_ret pe_bl)) pss_nil))))
    (pss_cons (ps_for PassesOwn.never rfl (pi_list (pv 5)) (pg_name (i := 8) sc_law_good_turner.nd rfl (Or.inl rfl))
      (pss_one (ps_if (pt_cmpR op_ne (pe_callx (pv 0) c_call_Turner hr (by decide) (pa_cons (pe_ix ix_tup (pv 8) pe_int (fun _ _ => rfl)) pa_nil)) (pe_ix ix_tup (pv 8) pe_int (fun _ _ => rfl)) (nomark _)) (pss_one (ps_ret pe_bl)) pss_nil)))
    (pss_cons (ps_for PassesOwn.never rfl (pi_list (pv 6)) (pg_name (i := 9) sc_law_good_turner.nd rfl (Or.inl rfl))
      (pss_cons (ps_set (i := 10) sc_law_good_turner.nd rfl (Or.inl rfl) (pe_cx c_law_due_image hr (by decide) rfl pass0 (pa_cons (pv 4) (pa_cons (pv 9) (pa_cons (pv 3) pa_nil)))))
      (pss_cons (ps_set (i := 11) sc_law_good_turner.nd rfl (Or.inl rfl) (pe_callx (pv 0) c_call_Turner hr (by decide) (pa_cons (pv 9) pa_nil)))
      (pss_one (ps_if (PW.pt (pw_or (PW.pt (pw_and (pt_cmpR op_isN (pv 10) pe_non (nomark _)) (pw_and1 (pt_cmpR op_notN (pv 11) pe_non (nomark _))))) (pw_or1 (PW.pt (pw_and (pt_cmpR op_notN (pv 10) pe_non (nomark _)) (pw_and1 (pt_cmpR op_ne (pv 11) (pv 10) (nomark _)))))))) (pss_one (ps_ret pe_bl)) pss_nil)))))
    (pss_one (ps_ret pe_bl))))))), ?_⟩
    try simp only [cxK, cxKX]
    show (_ : TS) (_ : Ends) [some _, some _, some _, some _, some _, some _, some _, none, none, none, none, none] _
    walk_at "rd"
    walk_at "rdo"
    refine r_lock h3 True.intro fun od => ?_
    have w1 : Wd H [td] (upd H td (.frz od (.dK kvs))) [(td, .frz od (.dK kvs)), (tp, .ins ad.tu dx (tFs ls im n d)), (d, .dK kvs)] := w0.put (i := 0) rfl (.inl (by simp)) (fun _ z => by cases z)
    walk_at "rdo"
    refine f_keys (fun i σ H' => H' = upd H td (.frz od (.dK kvs)) ∧ ∃ x1 : Option V, σ = [some (.ref tp), some (.str ls), some (.str im), some (.int n), some (.ref td), some (.ref pl), some (.ref ml), x1, none, none, none, none]) ⟨rfl, _, rfl⟩ (fun i σ H' p => by rw [p.1, upd_same]) (fun i k v σ H' hk p => ?_) (fun σ H' p => ?_)
    · obtain ⟨rfl, x1, rfl⟩ := p
      obtain ⟨s, rfl⟩ := ks i k v hk
      obtain ⟨v', ev⟩ := valV_at hk
      obtain ⟨c, rfl⟩ := dk _ _ ev
      show gName 7 (.str s) _ _ _
      walk_at "rdo"
      rw [ev]
      show (if (!true) = true then _ else _)
      walk_at "rdo"
      exact ⟨rfl, _, rfl⟩
    · obtain ⟨rfl, x1, rfl⟩ := p
      refine ⟨upd_same, ?_⟩
      rw [upd_back h3]
      clear w0 w1
      have w2 : Wd H [] H [] := .here _ List.nodup_nil (fun p hp => by cases hp)
      walk_at "rdo"
      refine f_list (xs := ts.map V.ref) (fun i σ H' => Wd H [] H' [] ∧ ∃ x1 x2 : Option V, σ = [some (.ref tp), some (.str ls), some (.str im), some (.int n), some (.ref td), some (.ref pl), some (.ref ml), x1, x2, none, none, none]) ⟨w2, _, _, rfl⟩
        (fun i σ H' _ p => sqL (p.1.keep h4 (by simp))) (fun i x σ H' hx p => ?_) (fun σ H' p => ?_)
      · obtain ⟨w3, x1, x2, rfl⟩ := p
        obtain ⟨ta, p, rfl, hta, hp, htp⟩ := tu.get hx
        have hpm : p ∈ ps := List.mem_of_getElem? hp
        have s1 := (sm.2 p hpm).1
        have s2 := (sm.2 p hpm).2
        walk_at "rdo"
        refine ⟨tp, dx, d, ls, im, p.1, n, kvs, rfl, w3.keep h1 (by simp), w3.keep h2 (by simp), dk, by omega, ovp p hpm, fun H4 f4 => ?_⟩
        have w4 := w3.call0 f4
        rw [imp p hpm]
        rw [show optV (some p.2) = V.str p.2 from rfl]
        walk_at "rdo"
        exact ⟨w4, _, _, rfl⟩
      · obtain ⟨w3, x1, x2, rfl⟩ := p
        walk_at "rdo"
        refine f_list (xs := mws.map V.str) (fun i σ H' => Wd H [] H' [] ∧ ∃ x1 x2 x3 x4 x5 : Option V, σ = [some (.ref tp), some (.str ls), some (.str im), some (.int n), some (.ref td), some (.ref pl), some (.ref ml), x1, x2, x3, x4, x5]) ⟨w3, _, _, _, _, _, rfl⟩
          (fun i σ H' _ p => sqL (p.1.keep h5 (by simp))) (fun i x σ H' hx p => ?_) (fun σ H' p => ?_)
        · obtain ⟨w4, x1, x2, x3, x4, x5, rfl⟩ := p
          obtain ⟨z, hz, rfl⟩ : ∃ z, mws[i]? = some z ∧ x = .str z := by
            rw [List.getElem?_map] at hx
            cases e : mws[i]? with
            | none => rw [e] at hx; cases hx
            | some z => rw [e] at hx; exact ⟨z, rfl, (Option.some.inj hx).symm⟩
          obtain ⟨ovz, lz⟩ := ovm z (List.mem_of_getElem? hz)
          walk_at "rdo"
          refine ⟨td, kvs, z, n, rfl, w4.keep h3 (by simp), dk, lz, ?_⟩
          walk_at "rdo"
          refine ⟨tp, dx, d, ls, im, z, n, kvs, rfl, w4.keep h1 (by simp), w4.keep h2 (by simp), dk, lz, ovz, fun H4 f4 => ?_⟩
          have w5 := w4.call0 f4
          cases imgK kvs z n z.length with
          | none =>
            rw [show optV none = V.non from rfl]
            walk_at "rdo"
            exact ⟨w5, _, _, _, _, _, rfl⟩
          | some y =>
            rw [show optV (some y) = V.str y from rfl]
            walk_at "rdo"
            exact ⟨w5, _, _, _, _, _, rfl⟩
        · obtain ⟨w4, x1, x2, x3, x4, x5, rfl⟩ := p
          walk_at "rdo"
          exact Q1 H' w4.fr
end
end TZ

namespace TZ
open PySem L2
/-! ### slices by length -/
theorem cut_len (z : Str) (lo hi : Option Int) : (cutS z lo hi).length = min (HT.sIx z.length z.length hi - HT.sIx z.length 0 lo) (z.length - HT.sIx z.length 0 lo) := by
  show (((z.cps.toList.drop (HT.sIx z.length 0 lo)).take (HT.sIx z.length z.length hi - HT.sIx z.length 0 lo)).toArray).size = _
  rw [List.size_toArray, List.length_take, List.length_drop, Array.length_toList]
  rfl
theorem cut_a (z : Str) {j : Int} (h : 0 ≤ j) : (cutS z none (some j)).length = min j.toNat z.length := by
  rw [cut_len]
  have e1 : HT.sIx z.length z.length (some j) = min j.toNat z.length := by
    unfold HT.sIx
    simp only
    rw [if_neg (by omega)]
  have e2 : HT.sIx z.length 0 none = 0 := rfl
  rw [e1, e2]
  omega
theorem cut_b (z : Str) {j : Int} (h : 0 ≤ j) : (cutS z (some j) none).length = z.length - min j.toNat z.length := by
  rw [cut_len]
  have e1 : HT.sIx z.length 0 (some j) = min j.toNat z.length := by
    unfold HT.sIx
    simp only
    rw [if_neg (by omega)]
  have e2 : HT.sIx z.length z.length none = z.length := rfl
  rw [e1, e2]
  omega
theorem at_in {α : Type} {xs : List α} {r : Int} (h0 : 0 ≤ r) (h1 : r < (xs.length : Nat)) : ∃ x, atI xs r = some x ∧ xs[r.toNat]? = some x ∧ ixN xs.length r = some r.toNat := by
  obtain ⟨j, rfl⟩ : ∃ j : Nat, r = j := ⟨r.toNat, (Int.toNat_of_nonneg h0).symm⟩
  have hj : j < xs.length := by omega
  have e : ((j : Int)).toNat = j := by simp
  rw [e]
  refine ⟨xs[j], atI_nat (by simp [hj]), by simp [hj], ?_⟩
  unfold ixN
  rw [if_pos (by omega), if_pos (by omega)]
  simp
local macro_rules | `(tactic| walk_at "obj") => `(tactic| first | exact Wd.at (by assumption) (by walk_at "mem") | exact Wd.tup (by assumption) (by assumption) | assumption | exact Wd.keep (by assumption) (by assumption) (by (simp; done)))
local macro_rules | `(tactic| walk_at "seq") => `(tactic| first | exact sqL (Wd.at (by assumption) (by walk_at "mem")) | exact sqL (Wd.keep (by assumption) (by assumption) (by (simp; done))) | assumption)
local macro_rules | `(tactic| walk_at "rdd") => `(tactic| first | exact Or.inl (Wd.at (by assumption) (by walk_at "mem")) | exact Or.inr ⟨_, Wd.at (by assumption) (by walk_at "mem")⟩ | exact Or.inl (Wd.keep (by assumption) (by assumption) (by (simp; done))))
local macro_rules | `(tactic| walk_at "cd") => `(tactic| first | omega | exact ⟨by decide, by decide, by decide⟩ | exact Or.inl ⟨by decide, by decide⟩ | exact Or.inr ⟨by decide, by decide⟩ | exact Or.inl ⟨by omega, by omega⟩ | exact Or.inr ⟨by omega, by omega⟩ | exact ⟨by omega, by omega⟩)
local macro_rules | `(tactic| walk_at "mem") => `(tactic| ((repeat (first | exact List.Mem.head _ | apply List.Mem.tail)); done))
local macro_rules | `(tactic| walk_at "set") => `(tactic| (dsimp only [List.set]; try exact rfl))
local macro_rules | `(tactic| walk_at "own") => `(tactic| first | exact Or.inl (by walk_at "mem") | exact Or.inr (by assumption))
local macro_rules | `(tactic| walk_at "hi") => `(tactic| first | exact (rfl : (_ : List (Addr × HO))[0]? = _) | exact (rfl : (_ : List (Addr × HO))[1]? = _) | exact (rfl : (_ : List (Addr × HO))[2]? = _) | exact (rfl : (_ : List (Addr × HO))[3]? = _) | exact (rfl : (_ : List (Addr × HO))[4]? = _) | exact (rfl : (_ : List (Addr × HO))[5]? = _) | exact (rfl : (_ : List (Addr × HO))[6]? = _) | exact (rfl : (_ : List (Addr × HO))[7]? = _) | exact (rfl : (_ : List (Addr × HO))[8]? = _) | exact (rfl : (_ : List (Addr × HO))[9]? = _))
local macro_rules | `(tactic| walk_at "sz") => `(tactic| first | (show _ ≤ sizeLine; decide) | (refine sz_ok ?_; first | omega | (simp only [List.length_cons, List.length_nil, List.length_map, PySem.Str.length_append] <;> omega) | (simp; done)) | (refine TZ.sz_lt ?_; first | omega | (simp only [List.length_cons, List.length_nil, List.length_map, List.length_append, PySem.Str.length_append] <;> omega) | (simp; done)))
local macro_rules | `(tactic| walk_at "rd1") => `(tactic| first
  | with_reducible refine' r_seq ?_
  | ((with_reducible refine' r_var ?hv ?_); (case hv => exact rfl))
  | with_reducible refine' r_c ?_
  | with_reducible refine' r_op ?_
  | with_reducible refine' r_I0 ?_
  | ((with_reducible refine' r_set ?hv ?_); (case hv => walk_at "set"))
  | with_reducible refine' r_asg ?_
  | with_reducible refine' r_cons ?_
  | with_reducible refine' r_nil ?_
  | with_reducible refine' r_cb ?_
  | with_reducible refine' r_call0 ?_
  | with_reducible refine' r_test ?_
  | with_reducible refine' r_B ?_
  | with_reducible refine' r_bl ?_
  | with_reducible refine' r_ifS ?_
  | with_reducible refine' r_and ?_
  | with_reducible refine' r_or ?_
  | with_reducible refine' r_not ?_
  | with_reducible refine' r_andV ?_
  | with_reducible refine' r_orV ?_
  | with_reducible refine' r_notV ?_
  | with_reducible refine' r_ifE ?_
  | with_reducible refine' r_eqI ?_
  | with_reducible refine' r_neI ?_
  | with_reducible refine' r_eqS ?_
  | with_reducible refine' r_neS ?_
  | ((with_reducible refine' r_eq ?hv ?_); (case hv => exact rfl))
  | ((with_reducible refine' r_ne ?hv ?_); (case hv => exact rfl))
  | with_reducible refine' r_ret ?_
  | with_reducible refine' r_retN ?_
  | with_reducible refine' r_drop ?_
  | with_reducible refine' r_next ?_
  | with_reducible refine' r_cont ?_
  | with_reducible refine' r_brk ?_
  | with_reducible refine' r_asgS ?_
  | with_reducible refine' r_asgT ?_
  | with_reducible refine' r_gN ?_
  | with_reducible refine' r_gc ?_
  | with_reducible refine' r_gn ?_
  | with_reducible refine' r_tup ?_
  | with_reducible refine' r_lst ?_
  | with_reducible refine' r_sl ?_
  | with_reducible refine' r_nopart ?_
  | with_reducible refine' r_part ?_
  | with_reducible refine' r_partI ?_
  | with_reducible refine' r_un ?_
  | with_reducible refine' r_U ?_
  | with_reducible refine' r_int1 ?_
  | with_reducible refine' r_l1 ?_
  | with_reducible refine' r_l2 ?_
  | with_reducible refine' r_sign ?_
  | with_reducible refine' r_refl ?_
  | with_reducible refine' r_bm ?_
  | with_reducible refine' r_bm0 ?_
  | ((with_reducible refine' r_I ?hv ?_); (case hv => walk_at "cd"))
  | ((with_reducible refine' r_ixL ?hs ?he ?_); (case hs => walk_at "seq"); (case he => first | assumption | exact rfl))
  | ((with_reducible refine' r_ixT ?hs ?he ?_); (case hs => walk_at "obj"); (case he => first | assumption | exact rfl))
  | ((with_reducible refine' r_lenL ?hs ?_); (case hs => walk_at "seq"))
  | ((with_reducible refine' r_lenT ?hs ?_); (case hs => walk_at "obj"))
  | ((with_reducible refine' r_tyL ?hs ?_); (case hs => walk_at "seq"))
  | ((with_reducible refine' r_setW ?w ?hi ?own ?e ?hy ?hL ?_); (case w => assumption); (case hi => walk_at "hi"); (case own => walk_at "own"); (case e => first | assumption | exact rfl); (case hy => walk_at "set"); (case hL => walk_at "set"); intro _ _)
  | ((with_reducible refine' r_mkT ?w ?hs ?_); (case w => assumption); (case hs => walk_at "sz"); intro _ _ _ _ _)
  | ((with_reducible refine' r_mkL ?w ?hs ?_); (case w => assumption); (case hs => walk_at "sz"); intro _ _ _ _ _)
  | with_reducible refine' r_for ?_
  | with_reducible refine' r_iList ?_
  | with_reducible refine' r_iRng1 ?_
  | with_reducible refine' r_iStr ?_
  | with_reducible refine' r_iEs ?_
  | with_reducible refine' r_iEl ?_
  | with_reducible refine' r_StQ ?_
  | with_reducible refine' r_EsQ ?_
  | ((with_reducible refine' r_RgQ ?hv ?_); (case hv => first | omega | assumption))
  | ((with_reducible refine' r_LsQ ?hs ?_); (case hs => walk_at "seq"))
  | ((with_reducible refine' r_ElQ ?hs ?_); (case hs => walk_at "seq"))
  | with_reducible refine' r_lc ?_
  | with_reducible refine' r_make ?_
  | with_reducible refine' r_dget ?_
  | with_reducible refine' r_din ?_
  | with_reducible refine' r_dnin ?_
  | with_reducible refine' r_dput ?_
  | with_reducible refine' r_dsetd ?_
  | with_reducible refine' r_fld ?_
  | with_reducible refine' r_fset ?_
  | ((with_reducible refine' r_dinS ?hs ?_); (case hs => walk_at "rdd"))
  | ((with_reducible refine' r_dgetS ?hs ?e ?_); (case hs => walk_at "rdd"); (case e => assumption))
  | ((with_reducible refine' r_ds0 ?hs ?_); (case hs => walk_at "obj"))
  | ((with_reducible refine' r_dputS ?w ?hi ?own ?hl ?hL ?_); (case w => assumption); (case hi => walk_at "hi"); (case own => walk_at "own"); (case hl => first | assumption | walk_at "sz"); (case hL => walk_at "set"); intro _ _)
  | ((with_reducible refine' r_dnew ?w ?_); (case w => assumption); intro _ _ _ _ _)
  | ((with_reducible refine' r_lenD ?hs ?_); (case hs => walk_at "obj"))
  | ((with_reducible refine' r_fldW ?hs ?c ?nf ?l ?_); (case hs => walk_at "obj"); (case c => assumption); (case nf => assumption); (case l => exact rfl))
  | ((with_reducible refine' r_lenS ?hs ?_); (case hs => walk_at "sz"))
  | ((with_reducible refine' r_slS ?hs ?_); (case hs => walk_at "sz"))
  | ((with_reducible refine' r_cat ?hs ?_); (case hs => walk_at "sz"))
  | ((with_reducible refine' r_ixS ?hs ?e ?_); (case hs => walk_at "sz"); (case e => assumption))
  | ((with_reducible refine' r_appW ?w ?hi ?own ?e ?hL ?_); (case w => assumption); (case hi => walk_at "hi"); (case own => walk_at "own"); (case e => walk_at "sz"); (case hL => walk_at "set"); intro _ _)
  | ((with_reducible refine' r_viewS ?hz ?_); (case hz => omega))
  | ((with_reducible refine' r_wordW ?w ?ov ?_); (case w => assumption); (case ov => assumption); intro _ _)
  | ((with_reducible refine' r_nextS ?w ?hi ?hc ?own ?ne ?n0 ?n1 ?hL ?_); (case w => assumption); (case hi => walk_at "hi"); (case hc => walk_at "mem"); (case own => walk_at "own"); (case ne => assumption); (case n0 => omega); (case n1 => omega); (case hL => intro _ _ _; walk_at "set"); intro _ _ _ _ _ _ _ _)
  | ((with_reducible refine' r_gT ?h ?e ?_); (case h => walk_at "obj"); (case e => exact rfl))
  | with_reducible refine' r_callO ?_
  | with_reducible refine' r_co0 ?_
  | ((with_reducible refine' r_co1 ?h ?_); (case h => walk_at "obj"))
  | with_reducible refine' r_iKeys ?_
  | ((with_reducible refine' r_KyQ ?h ?_); (case h => walk_at "obj"))
  | ((with_reducible refine' r_isTT ?h ?_); (case h => walk_at "obj"))
  | with_reducible refine' r_isII ?_
  | with_reducible refine' r_integer ?_
  | with_reducible refine' r_isIB ?_
  | ((with_reducible refine' r_isDD ?h ?_); (case h => walk_at "obj"))
  | ((with_reducible refine' r_isCC ?c ?h ?_); (case c => assumption); (case h => walk_at "obj"))
  | with_reducible refine' r_ss ?_
  | with_reducible refine' ifNT ?_
  | with_reducible refine' ifNF ?_
  | with_reducible refine' ifT ?_
  | with_reducible refine' ifF ?_)
local macro_rules | `(tactic| walk_at "rd") => `(tactic| repeat walk_at "rd1")
local macro_rules | `(tactic| walk_at "br") => `(tactic| first | with_reducible refine' if2 (fun _ => ?_) (fun _ => ?_) | with_reducible refine' ifn2 (fun _ => ?_) (fun _ => ?_) | with_reducible refine' ifb (fun _ => ?_) (fun _ => ?_) | with_reducible refine' ifnb (fun _ => ?_) (fun _ => ?_))
local macro_rules | `(tactic| walk_at "rdb") => `(tactic| repeat' (first | walk_at "rd1" | walk_at "br"))
local macro_rules | `(tactic| walk_at "bro") => `(tactic| first | with_reducible refine if2 (fun h => (by exfalso; omega)) (fun _ => ?_) | with_reducible refine if2 (fun _ => ?_) (fun h => (by exfalso; omega)) | with_reducible refine ifn2 (fun h => (by exfalso; omega)) (fun _ => ?_) | with_reducible refine ifn2 (fun _ => ?_) (fun h => (by exfalso; omega)) | with_reducible refine if2 (fun _ => ?_) (fun h => absurd rfl h) | with_reducible refine ifn2 (fun h => absurd rfl h) (fun _ => ?_) | with_reducible refine if2 (fun h => nomatch h) (fun _ => ?_) | with_reducible refine ifn2 (fun _ => ?_) (fun h => nomatch h))
local macro_rules | `(tactic| walk_at "rdo") => `(tactic| repeat (first | walk_at "rd1" | walk_at "bro"))

section
variable {P : Program} {w : World} {K : PySem.W.Frag} {mg : Str → Option Value} {base : Heap} {ad : Ad}
abbrev s_law_spoil : Stmt := topS 28
theorem sc_law_spoil : FnScope ["state", "pairs", "letters", "images", "at", "word", "image", "choice", "where", "sign"] ["state", "pairs", "letters", "images"] (defScope s_law_spoil) := ⟨rfl, rfl, rfl, by decide +kernel, rfl, by decide +kernel, by decide +kernel⟩
def PsB (B : Nat) (ps : List (Str × Str)) : Prop := ∀ p ∈ ps, p.1.length ≤ B ∧ p.2.length ≤ B
def spSpoil : Sp := fun vs H Q E => ∃ (st cl pl : Addr) (cs : List Int) (ts : List Addr) (ps : List (Str × Str)) (ls im : Str) (B : Nat), vs = [.ref st, .ref pl, .str ls, .str im] ∧ StAt H st cl cs ∧ H pl = some (.lst (ts.map V.ref)) ∧ Tups H ts ps ∧ 1 ≤ ps.length ∧ ps.length ≤ 100 ∧ PsB B ps ∧ B ≤ 90 ∧ 1 ≤ im.length ∧ im.length ≤ 1000 ∧
  ∀ (i : Int) (ts' : List Addr) (ps' : List (Str × Str)) (H' : Hp), ps'.length = ps.length → PsB (B + 1) ps' → H' pl = some (.lst (ts'.map V.ref)) → Tups H' ts' ps' → Frm [st, pl] H H' → StAt H' st cl cs → Q (.int i) H'
theorem three_entries {H : Hp} {st cl pl : Addr} {cs : List Int} {a b c : Int} {xs : List V} (h1 : H st = some (.lst [.ref cl, .int a, .int b, .int c])) (h2 : H cl = some (.lst (cs.map V.int))) (ne : cs ≠ []) (h3 : H pl = some (.lst xs)) (n1 : pl ≠ st) (n2 : pl ≠ cl) :
    Wd H [st, pl] H [(pl, .lst xs), (st, .lst [.ref cl, .int a, .int b, .int c]), (cl, .lst (cs.map V.int))] := by
  have w0 := two_entries [st, pl] h1 h2 ne
  exact ⟨List.nodup_cons.mpr ⟨by simp [n1, n2], w0.nd⟩, fun p hp => by
    rcases List.mem_cons.mp hp with rfl | hp
    · exact h3
    · exact w0.at' p hp, w0.fr⟩
theorem w_law_spoil (T : Txt K mg ad) (c_law_next : CalX P w K mg base L2.CX0 1 "_law_next" spNext) {f : Addr} {fd : FuncData} (F : Fun K "_law_spoil" "_law_spoil" s_law_spoil f fd) : FnOk P w K mg base L2.CX0 2 f fd ["state", "pairs", "letters", "images"] spSpoil := by
  refine F.ok sc_law_spoil (fun vs H Q E h => ?_) (fun cdv A outer s H vs Q E hr h => ?_)
  · obtain ⟨st, cl, pl, cs, ts, ps, ls, im, B, rfl, _⟩ := h
    rfl
  · obtain ⟨st, cl, pl, cs, ts, ps, ls, im, B, rfl, ⟨⟨a, b, c, h1⟩, h2, ne⟩, h3, tu, p1, p2, pb, hB, i1, i2, k⟩ := h
    have hu := hu_of hr
    have tl : (ts.map V.ref).length = ps.length := by rw [List.length_map, tu.1]
    have n2 : pl ≠ cl := fun z => by
      rw [z, h2] at h3
      have e := HO.lst.inj (Option.some.inj h3)
      cases ts with
      | nil => simp at tl; omega
      | cons t r => cases cs with
        | nil => exact ne rfl
        | cons y q => cases e
    have n1 : pl ≠ st := fun z => by
      rw [z, h1] at h3
      have e := HO.lst.inj (Option.some.inj h3)
      cases ts with
      | nil => cases e
      | cons t r => cases r with
        | nil => cases e
        | cons t2 r => cases e
    have w0 := three_entries h1 h2 ne h3 n1 n2
    obtain ⟨c0, hc0, _, _⟩ := atI_str (z := im) (r := 0) (by decide) (by omega)
    have one0 : (⟨#[c0]⟩ : Str).length = 1 := rfl
    refine ⟨_, (pss_cons (ps_set (i := 4) sc_law_spoil.nd rfl (Or.inl rfl) (pe_cx c_law_next hr (by decide) rfl pass0 (pa_cons (pv 0) (pa_cons (pe_callB call_len_seq (by rfl) T.n_len (by decide +kernel) (pa_cons (pv 1) pa_nil)) pa_nil))))
    (pss_cons (ps_set (i := 5) sc_law_spoil.nd rfl (Or.inl rfl) (pe_ix ix_tup (pe_ix ix_list (pv 1) (pv 4) (fun _ _ => rfl)) pe_int (fun _ _ => rfl)))
    (pss_cons (ps_set (i := 6) sc_law_spoil.nd rfl (Or.inl rfl) (pe_ix ix_tup (pe_ix ix_list (pv 1) (pv 4) (fun _ _ => rfl)) pe_int (fun _ _ => rfl)))
    (pss_cons (ps_set (i := 7) sc_law_spoil.nd rfl (Or.inl rfl) (pe_cx c_law_next hr (by decide) rfl pass0 (pa_cons (pv 0) (pa_cons pe_int pa_nil))))
    (pss_cons (ps_set (i := 8) sc_law_spoil.nd rfl (Or.inl rfl) (pe_cx c_law_next hr (by decide) rfl pass0 (pa_cons (pv 0) (pa_cons (pe_op op_add (pe_callB call_len_str (by rfl) T.n_len (by decide +kernel) (pa_cons (pv 5) pa_nil)) pe_int) pa_nil))))
    (pss_cons (ps_set (i := 9) sc_law_spoil.nd rfl (Or.inl rfl) (pe_ix ix_list (pe_lst (pa_cons pe_str (pa_cons pe_str (pa_cons pe_str (pa_cons pe_str pa_nil))))) (pe_cx c_law_next hr (by decide) rfl pass0 (pa_cons (pv 0) (pa_cons pe_int pa_nil))) (fun _ _ => rfl)))
    (pss_cons (ps_if (pt_cmpR op_eq (pv 7) pe_int (nomark _)) (pss_one (ps_asg (pe_tup (pa_cons (pv 5) (pa_cons (pe_op op_add_str (pv 6) (pe_ix ix_str (pv 3) pe_int (fun _ _ => rfl))) pa_nil))) (pg_sub (pv 1) (pv 4) set_list))) (pss_one (ps_if (pt_cmpR op_eq (pv 7) pe_int (nomark _)) (pss_one (ps_asg (pe_tup (pa_cons (pe_op op_add_str (pe_op op_add_str (pe_slice sl_str (pv 5) po_none (po_some (pv 8))) (pv 9)) (pe_slice sl_str (pv 5) (po_some (pv 8)) po_none)) (pa_cons (pe_op op_add_str (pv 6) (pe_ix ix_str (pv 3) pe_int (fun _ _ => rfl))) pa_nil))) (pg_sub (pv 1) (pv 4) set_list))) (pss_one (ps_asg (pe_tup (pa_cons (pv 5) (pa_cons (pe_op op_add_str (pe_op op_add_str (pe_slice sl_str (pv 6) po_none (po_some (pv 8))) (pv 9)) (pe_slice sl_str (pv 6) (po_some (pe_op op_add (pv 8) pe_int)) po_none)) pa_nil))) (pg_sub (pv 1) (pv 4) set_list))))))
    (pss_one (ps_ret (pv 4)))))))))), ?_⟩
    try simp only [cxK, cxKX]
    show (_ : TS) (_ : Ends) [some _, some _, some _, some _, none, none, none, none, none, none] _
    walk_at "rd"
    rename_i r a1 b1 c1 H1 r0 r1 w1
    obtain ⟨x, e1, e2, e3⟩ := at_in r0 r1
    obtain ⟨t, p, rfl, ht, hp, htp⟩ := tu.get e2
    have hpm : p ∈ ps := List.mem_of_getElem? hp
    have s1 := (pb p hpm).1
    have s2 := (pb p hpm).2
    walk_at "rd"
    rename_i ch a2 b2 c2 H2 ch0 ch1 w2 wh a3 b3 c3 H3 wh0 wh1 w3 sl H4 n4 f4 w4 sg a5 b5 c5 H5 sg0 sg1 w5
    obtain ⟨sn, hsn, sn1⟩ : ∃ sn : Str, atI [V.str "?", V.str "A", V.str " ", V.str "0"] sg = some (.str sn) ∧ sn.length = 1 := by
      have : sg = 0 ∨ sg = 1 ∨ sg = 2 ∨ sg = 3 := by omega
      rcases this with rfl | rfl | rfl | rfl
      · exact ⟨_, rfl, rfl⟩
      · exact ⟨_, rfl, rfl⟩
      · exact ⟨_, rfl, rfl⟩
      · exact ⟨_, rfl, rfl⟩
    have la := cut_a p.1 wh0
    have lb := cut_b p.1 wh0
    have lc := cut_a p.2 wh0
    have ld := cut_b p.2 (show 0 ≤ wh + 1 by omega)
    have pm : ∀ q ∈ ps, q.1.length ≤ B + 1 ∧ q.2.length ≤ B + 1 := fun q hq => by
      have := pb q hq
      omega
    have fin : ∀ (t' : Addr) (w' im' : Str) (H' : Hp) (a b c : Int) (L : List (Addr × HO)), Wd H [st, pl] H' L → H' pl = some (.lst ((ts.map V.ref).set r.toNat (.ref t'))) → H' t' = some (.tup [.str w', .str im']) → w'.length ≤ B + 1 → im'.length ≤ B + 1 →
        H' st = some (.lst [.ref cl, .int a, .int b, .int c]) → H' cl = some (.lst (cs.map V.int)) → Q (.int r) H' := fun t' w' im' H' a b c L w6 g1 g2 l1 l2 g3 g4 => by
      refine k r (ts.set r.toNat t') (ps.set r.toNat (w', im')) H' (by simp) (fun q hq => ?_) (by rw [List.map_set]; exact g1) ⟨by simp [tu.1], fun i u q hu hq => ?_⟩ w6.fr ⟨⟨a, b, c, g3⟩, g4, ne⟩
      · rcases List.mem_or_eq_of_mem_set hq with hq | rfl
        · exact pm q hq
        · exact ⟨l1, l2⟩
      · by_cases e : r.toNat = i
        · subst e
          rw [List.getElem?_set_self (List.getElem?_eq_some_iff.mp ht).1] at hu
          rw [List.getElem?_set_self (List.getElem?_eq_some_iff.mp hp).1] at hq
          cases hu
          cases hq
          exact g2
        · rw [List.getElem?_set_ne e] at hu hq
          exact w6.tup (tu.2 i u q hu hq)
    clear k
    walk_at "rdb"
    all_goals
      refine fin _ _ _ _ _ _ _ _ (by assumption) (Wd.at (by assumption) (by walk_at "mem")) (Wd.at (by assumption) (by walk_at "mem")) ?_ ?_ (Wd.at (by assumption) (by walk_at "mem")) (Wd.at (by assumption) (by walk_at "mem"))
      all_goals
        (try simp only [PySem.Str.length_append])
        omega
end
end TZ

namespace TZ
open PySem L2
def Bad.tup : Bad → HO
  | .word w i => .tup [.str "word", .str w, .int (i : Nat)]
  | .text k => .tup [.str "text", .int (k : Nat), .int 0]
local macro_rules | `(tactic| walk_at "obj") => `(tactic| first | exact Wd.at (by assumption) (by walk_at "mem") | exact Wd.tup (by assumption) (by assumption) | assumption | exact Wd.keep (by assumption) (by assumption) (by (simp; done)))
local macro_rules | `(tactic| walk_at "seq") => `(tactic| first | exact sqL (Wd.at (by assumption) (by walk_at "mem")) | exact sqL (Wd.keep (by assumption) (by assumption) (by (simp; done))) | assumption)
local macro_rules | `(tactic| walk_at "rdd") => `(tactic| first | exact Or.inl (Wd.at (by assumption) (by walk_at "mem")) | exact Or.inr ⟨_, Wd.at (by assumption) (by walk_at "mem")⟩ | exact Or.inl (Wd.keep (by assumption) (by assumption) (by (simp; done))))
local macro_rules | `(tactic| walk_at "cd") => `(tactic| first | omega | exact ⟨by decide, by decide, by decide⟩ | exact Or.inl ⟨by decide, by decide⟩ | exact Or.inr ⟨by decide, by decide⟩ | exact Or.inl ⟨by omega, by omega⟩ | exact Or.inr ⟨by omega, by omega⟩ | exact ⟨by omega, by omega⟩)
local macro_rules | `(tactic| walk_at "mem") => `(tactic| ((repeat (first | exact List.Mem.head _ | apply List.Mem.tail)); done))
local macro_rules | `(tactic| walk_at "set") => `(tactic| (dsimp only [List.set]; try exact rfl))
local macro_rules | `(tactic| walk_at "own") => `(tactic| first | exact Or.inl (by walk_at "mem") | exact Or.inr (by assumption))
local macro_rules | `(tactic| walk_at "hi") => `(tactic| first | exact (rfl : (_ : List (Addr × HO))[0]? = _) | exact (rfl : (_ : List (Addr × HO))[1]? = _) | exact (rfl : (_ : List (Addr × HO))[2]? = _) | exact (rfl : (_ : List (Addr × HO))[3]? = _) | exact (rfl : (_ : List (Addr × HO))[4]? = _) | exact (rfl : (_ : List (Addr × HO))[5]? = _) | exact (rfl : (_ : List (Addr × HO))[6]? = _) | exact (rfl : (_ : List (Addr × HO))[7]? = _) | exact (rfl : (_ : List (Addr × HO))[8]? = _) | exact (rfl : (_ : List (Addr × HO))[9]? = _))
local macro_rules | `(tactic| walk_at "sz") => `(tactic| first | (show _ ≤ sizeLine; decide) | (refine sz_ok ?_; first | omega | (simp only [List.length_cons, List.length_nil, List.length_map, PySem.Str.length_append] <;> omega) | (simp; done)) | (refine TZ.sz_lt ?_; first | omega | (simp only [List.length_cons, List.length_nil, List.length_map, List.length_append, PySem.Str.length_append] <;> omega) | (simp; done)))
local macro_rules | `(tactic| walk_at "rd1") => `(tactic| first
  | with_reducible refine' r_seq ?_
  | ((with_reducible refine' r_var ?hv ?_); (case hv => exact rfl))
  | with_reducible refine' r_c ?_
  | with_reducible refine' r_op ?_
  | with_reducible refine' r_I0 ?_
  | ((with_reducible refine' r_set ?hv ?_); (case hv => walk_at "set"))
  | with_reducible refine' r_asg ?_
  | with_reducible refine' r_cons ?_
  | with_reducible refine' r_nil ?_
  | with_reducible refine' r_cb ?_
  | with_reducible refine' r_call0 ?_
  | with_reducible refine' r_test ?_
  | with_reducible refine' r_B ?_
  | with_reducible refine' r_bl ?_
  | with_reducible refine' r_ifS ?_
  | with_reducible refine' r_and ?_
  | with_reducible refine' r_or ?_
  | with_reducible refine' r_not ?_
  | with_reducible refine' r_andV ?_
  | with_reducible refine' r_orV ?_
  | with_reducible refine' r_notV ?_
  | with_reducible refine' r_ifE ?_
  | with_reducible refine' r_eqI ?_
  | with_reducible refine' r_neI ?_
  | with_reducible refine' r_eqS ?_
  | with_reducible refine' r_neS ?_
  | ((with_reducible refine' r_eq ?hv ?_); (case hv => exact rfl))
  | ((with_reducible refine' r_ne ?hv ?_); (case hv => exact rfl))
  | with_reducible refine' r_ret ?_
  | with_reducible refine' r_retN ?_
  | with_reducible refine' r_drop ?_
  | with_reducible refine' r_next ?_
  | with_reducible refine' r_cont ?_
  | with_reducible refine' r_brk ?_
  | with_reducible refine' r_asgS ?_
  | with_reducible refine' r_asgT ?_
  | with_reducible refine' r_gN ?_
  | with_reducible refine' r_gc ?_
  | with_reducible refine' r_gn ?_
  | with_reducible refine' r_tup ?_
  | with_reducible refine' r_lst ?_
  | with_reducible refine' r_sl ?_
  | with_reducible refine' r_nopart ?_
  | with_reducible refine' r_part ?_
  | with_reducible refine' r_partI ?_
  | with_reducible refine' r_un ?_
  | with_reducible refine' r_U ?_
  | with_reducible refine' r_int1 ?_
  | with_reducible refine' r_l1 ?_
  | with_reducible refine' r_l2 ?_
  | with_reducible refine' r_sign ?_
  | with_reducible refine' r_refl ?_
  | with_reducible refine' r_bm ?_
  | with_reducible refine' r_bm0 ?_
  | ((with_reducible refine' r_I ?hv ?_); (case hv => walk_at "cd"))
  | ((with_reducible refine' r_ixL ?hs ?he ?_); (case hs => walk_at "seq"); (case he => first | assumption | exact rfl))
  | ((with_reducible refine' r_ixT ?hs ?he ?_); (case hs => walk_at "obj"); (case he => first | assumption | exact rfl))
  | ((with_reducible refine' r_lenL ?hs ?_); (case hs => walk_at "seq"))
  | ((with_reducible refine' r_lenT ?hs ?_); (case hs => walk_at "obj"))
  | ((with_reducible refine' r_tyL ?hs ?_); (case hs => walk_at "seq"))
  | ((with_reducible refine' r_setW ?w ?hi ?own ?e ?hy ?hL ?_); (case w => assumption); (case hi => walk_at "hi"); (case own => walk_at "own"); (case e => first | assumption | exact rfl); (case hy => walk_at "set"); (case hL => walk_at "set"); intro _ _)
  | ((with_reducible refine' r_mkT ?w ?hs ?_); (case w => assumption); (case hs => walk_at "sz"); intro _ _ _ _ _)
  | ((with_reducible refine' r_mkL ?w ?hs ?_); (case w => assumption); (case hs => walk_at "sz"); intro _ _ _ _ _)
  | with_reducible refine' r_for ?_
  | with_reducible refine' r_iList ?_
  | with_reducible refine' r_iRng1 ?_
  | with_reducible refine' r_iStr ?_
  | with_reducible refine' r_iEs ?_
  | with_reducible refine' r_iEl ?_
  | with_reducible refine' r_StQ ?_
  | with_reducible refine' r_EsQ ?_
  | ((with_reducible refine' r_RgQ ?hv ?_); (case hv => first | omega | assumption))
  | ((with_reducible refine' r_LsQ ?hs ?_); (case hs => walk_at "seq"))
  | ((with_reducible refine' r_ElQ ?hs ?_); (case hs => walk_at "seq"))
  | with_reducible refine' r_lc ?_
  | with_reducible refine' r_make ?_
  | with_reducible refine' r_dget ?_
  | with_reducible refine' r_din ?_
  | with_reducible refine' r_dnin ?_
  | with_reducible refine' r_dput ?_
  | with_reducible refine' r_dsetd ?_
  | with_reducible refine' r_fld ?_
  | with_reducible refine' r_fset ?_
  | ((with_reducible refine' r_dinS ?hs ?_); (case hs => walk_at "rdd"))
  | ((with_reducible refine' r_dgetS ?hs ?e ?_); (case hs => walk_at "rdd"); (case e => assumption))
  | ((with_reducible refine' r_ds0 ?hs ?_); (case hs => walk_at "obj"))
  | ((with_reducible refine' r_dputS ?w ?hi ?own ?hl ?hL ?_); (case w => assumption); (case hi => walk_at "hi"); (case own => walk_at "own"); (case hl => first | assumption | walk_at "sz"); (case hL => walk_at "set"); intro _ _)
  | ((with_reducible refine' r_dnew ?w ?_); (case w => assumption); intro _ _ _ _ _)
  | ((with_reducible refine' r_lenD ?hs ?_); (case hs => walk_at "obj"))
  | ((with_reducible refine' r_fldW ?hs ?c ?nf ?l ?_); (case hs => walk_at "obj"); (case c => assumption); (case nf => assumption); (case l => exact rfl))
  | ((with_reducible refine' r_lenS ?hs ?_); (case hs => walk_at "sz"))
  | ((with_reducible refine' r_slS ?hs ?_); (case hs => walk_at "sz"))
  | ((with_reducible refine' r_cat ?hs ?_); (case hs => walk_at "sz"))
  | ((with_reducible refine' r_ixS ?hs ?e ?_); (case hs => walk_at "sz"); (case e => assumption))
  | ((with_reducible refine' r_appW ?w ?hi ?own ?e ?hL ?_); (case w => assumption); (case hi => walk_at "hi"); (case own => walk_at "own"); (case e => walk_at "sz"); (case hL => walk_at "set"); intro _ _)
  | ((with_reducible refine' r_viewS ?hz ?_); (case hz => omega))
  | ((with_reducible refine' r_wordW ?w ?ov ?_); (case w => assumption); (case ov => assumption); intro _ _)
  | ((with_reducible refine' r_nextS ?w ?hi ?hc ?own ?ne ?n0 ?n1 ?hL ?_); (case w => assumption); (case hi => walk_at "hi"); (case hc => walk_at "mem"); (case own => walk_at "own"); (case ne => assumption); (case n0 => omega); (case n1 => omega); (case hL => intro _ _ _; walk_at "set"); intro _ _ _ _ _ _ _ _)
  | ((with_reducible refine' r_gT ?h ?e ?_); (case h => walk_at "obj"); (case e => exact rfl))
  | with_reducible refine' r_callO ?_
  | with_reducible refine' r_co0 ?_
  | ((with_reducible refine' r_co1 ?h ?_); (case h => walk_at "obj"))
  | with_reducible refine' r_iKeys ?_
  | ((with_reducible refine' r_KyQ ?h ?_); (case h => walk_at "obj"))
  | ((with_reducible refine' r_isTT ?h ?_); (case h => walk_at "obj"))
  | with_reducible refine' r_isII ?_
  | with_reducible refine' r_integer ?_
  | with_reducible refine' r_isIB ?_
  | ((with_reducible refine' r_isDD ?h ?_); (case h => walk_at "obj"))
  | ((with_reducible refine' r_isCC ?c ?h ?_); (case c => assumption); (case h => walk_at "obj"))
  | with_reducible refine' r_ss ?_
  | with_reducible refine' ifNT ?_
  | with_reducible refine' ifNF ?_
  | with_reducible refine' ifT ?_
  | with_reducible refine' ifF ?_)
local macro_rules | `(tactic| walk_at "rd") => `(tactic| repeat walk_at "rd1")
local macro_rules | `(tactic| walk_at "br") => `(tactic| first | with_reducible refine' if2 (fun _ => ?_) (fun _ => ?_) | with_reducible refine' ifn2 (fun _ => ?_) (fun _ => ?_) | with_reducible refine' ifb (fun _ => ?_) (fun _ => ?_) | with_reducible refine' ifnb (fun _ => ?_) (fun _ => ?_))
local macro_rules | `(tactic| walk_at "rdb") => `(tactic| repeat' (first | walk_at "rd1" | walk_at "br"))
local macro_rules | `(tactic| walk_at "bro") => `(tactic| first | with_reducible refine if2 (fun h => (by exfalso; omega)) (fun _ => ?_) | with_reducible refine if2 (fun _ => ?_) (fun h => (by exfalso; omega)) | with_reducible refine ifn2 (fun h => (by exfalso; omega)) (fun _ => ?_) | with_reducible refine ifn2 (fun _ => ?_) (fun h => (by exfalso; omega)) | with_reducible refine if2 (fun _ => ?_) (fun h => absurd rfl h) | with_reducible refine ifn2 (fun h => absurd rfl h) (fun _ => ?_) | with_reducible refine if2 (fun h => nomatch h) (fun _ => ?_) | with_reducible refine ifn2 (fun _ => ?_) (fun h => nomatch h))
local macro_rules | `(tactic| walk_at "rdo") => `(tactic| repeat (first | walk_at "rd1" | walk_at "bro"))

section
variable {P : Program} {w : World} {K : PySem.W.Frag} {mg : Str → Option Value} {base : Heap} {ad : Ad}
abbrev s_law_first_bad : Stmt := topS 29
theorem sc_law_first_bad : FnScope ["pairs", "letters", "images", "k", "side", "at"] ["pairs", "letters", "images"] (defScope s_law_first_bad) := ⟨rfl, rfl, rfl, by decide +kernel, rfl, by decide +kernel, by decide +kernel⟩
def spFirst : Sp := fun vs H Q E => ∃ (pl : Addr) (ts : List Addr) (ps : List (Str × Str)) (ls im : Str), vs = [.ref pl, .str ls, .str im] ∧ H pl = some (.lst (ts.map V.ref)) ∧ Tups H ts ps ∧ Small ps ∧
  (AllFine ls im ps → ∀ H', Frm [] H H' → Q .non H') ∧ (∀ b, FirstBad ls im ps b → ∀ (r : Addr) (H' : Hp), Frm [] H H' → H r = none → H' r = some b.tup → Q (.ref r) H')
theorem w_law_first_bad (T : Txt K mg ad) {f : Addr} {fd : FuncData} (F : Fun K "_law_first_bad" "_law_first_bad" s_law_first_bad f fd) : FnOk P w K mg base L2.CX0 1 f fd ["pairs", "letters", "images"] spFirst := by
  refine F.ok sc_law_first_bad (fun vs H Q E h => ?_) (fun cdv A outer s H vs Q E hr h => ?_)
  · obtain ⟨pl, ts, ps, ls, im, rfl, _⟩ := h
    rfl
  · obtain ⟨pl, ts, ps, ls, im, rfl, h1, tu, sm, k1, k2⟩ := h
    have w0 : Wd H [] H [] := .here _ List.nodup_nil (fun p hp => by cases hp)
    have tl : (ts.map V.ref).length = ps.length := by rw [List.length_map, tu.1]
    have sm1 := sm.1
    refine ⟨_, (pss_cons (ps_for PassesOwn.never rfl (pi_range1 (by rfl) T.n_range (pa_cons (pe_callB call_len_seq (by rfl) T.n_len (by decide +kernel) (pa_cons (pv 0) pa_nil)) pa_nil)) (pg_name (i := 3) sc_law_first_bad.nd rfl (Or.inl rfl))
      (pss_cons (ps_for PassesOwn.never rfl (pi_range1 (by rfl) T.n_range (pa_cons pe_int pa_nil)) (pg_name (i := 4) sc_law_first_bad.nd rfl (Or.inl rfl))
        (pss_one (ps_for PassesOwn.never rfl (pi_range1 (by rfl) T.n_range (pa_cons (pe_callB call_len_str (by rfl) T.n_len (by decide +kernel) (pa_cons (pe_ix ix_tup (pe_ix ix_list (pv 0) (pv 3) (fun _ _ => rfl)) (pv 4) (fun _ _ => rfl)) pa_nil)) pa_nil)) (pg_name (i := 5) sc_law_first_bad.nd rfl (Or.inl rfl))
          (pss_one (ps_if (pt_cmpR op_notIn_sign (pe_ix ix_str (pe_ix ix_tup (pe_ix ix_list (pv 0) (pv 3) (fun _ _ => rfl)) (pv 4) (fun _ _ => rfl)) (pv 5) (fun _ _ => rfl)) (pe_ix ix_list (pe_lst (pa_cons (pv 1) (pa_cons (pv 2) pa_nil))) (pv 4) (fun _ _ => rfl)) rfl) (pss_one (ps_ret (pe_tup (pa_cons pe_str (pa_cons (pe_ix ix_tup (pe_ix ix_list (pv 0) (pv 3) (fun _ _ => rfl)) (pv 4) (fun _ _ => rfl)) (pa_cons (pv 5) pa_nil)))))) pss_nil)))))
      (pss_one (ps_if (pt_cmpR op_ne (pe_callB call_len_str (by rfl) T.n_len (by decide +kernel) (pa_cons (pe_ix ix_tup (pe_ix ix_list (pv 0) (pv 3) (fun _ _ => rfl)) pe_int (fun _ _ => rfl)) pa_nil)) (pe_callB call_len_str (by rfl) T.n_len (by decide +kernel) (pa_cons (pe_ix ix_tup (pe_ix ix_list (pv 0) (pv 3) (fun _ _ => rfl)) pe_int (fun _ _ => rfl)) pa_nil)) (nomark _)) (pss_one (ps_ret (pe_tup (pa_cons pe_str (pa_cons (pv 3) (pa_cons pe_int pa_nil)))))) pss_nil))))
    (pss_one (ps_ret pe_non))), ?_⟩
    try simp only [cxK, cxKX]
    show (_ : TS) (_ : Ends) [some _, some _, some _, none, none, none] _
    walk_at "rd"
    have e0 : (((ts.map V.ref).length : Nat) : Int).toNat = ps.length := by simp [tu.1]
    rw [e0]
    refine f_rng (fun i σ H' => Wd H [] H' [] ∧ (∀ (j : Nat) (q : Str × Str), j < i → ps[j]? = some q → FineP ls im q) ∧ ∃ x1 x2 x3 : Option V, σ = [some (.ref pl), some (.str ls), some (.str im), x1, x2, x3]) ⟨w0, fun j q h => absurd h (Nat.not_lt_zero _), _, _, _, rfl⟩ (fun i σ H' hi q => ?_) (fun σ H' q => ?_)
    · obtain ⟨w1, ok, x1, x2, x3, rfl⟩ := q
      obtain ⟨t0, ht0⟩ : ∃ t0, ts[i]? = some t0 := ⟨ts[i]'(by rw [tu.1]; exact hi), by simp⟩
      obtain ⟨p, hp⟩ : ∃ p, ps[i]? = some p := ⟨ps[i], by simp [hi]⟩
      have i1 : atI (ts.map V.ref) (i : Int) = some (.ref t0) := atI_nat (by rw [List.getElem?_map, ht0]; rfl)
      have tt0 := tu.2 i t0 p ht0 hp
      have s1 := (sm.2 p (List.mem_of_getElem? hp)).1
      have s2 := (sm.2 p (List.mem_of_getElem? hp)).2
      walk_at "rd"
      rw [show Int.toNat 2 = 2 from rfl]
      refine f_rng (fun s σ H' => Wd H [] H' [] ∧ (1 ≤ s → Over ls p.1) ∧ (2 ≤ s → Over im p.2) ∧ ∃ x2 x3 : Option V, σ = [some (.ref pl), some (.str ls), some (.str im), some (.int (i : Nat)), x2, x3]) ⟨w1, fun h => absurd h (by omega), fun h => absurd h (by omega), _, _, rfl⟩ (fun s σ H' hs q => ?_) (fun σ H' q => ?_)
      · obtain ⟨w2, o1, o2, x2, x3, rfl⟩ := q
        obtain ⟨wd, lt, ew, el, lw, hb, ho⟩ : ∃ wd lt : Str, atI [V.str p.1, V.str p.2] (s : Int) = some (.str wd) ∧ atI [V.str ls, V.str im] (s : Int) = some (.str lt) ∧ wd.length ≤ 100 ∧ (∀ a, BadAt lt wd a → BadP ls im i p (.word wd a)) ∧ (Over lt wd → (1 ≤ s + 1 → Over ls p.1) ∧ (2 ≤ s + 1 → Over im p.2)) := by
          have : s = 0 ∨ s = 1 := by omega
          rcases this with rfl | rfl
          · exact ⟨p.1, ls, rfl, rfl, s1, fun a h => .inl ⟨rfl, h⟩, fun h => ⟨fun _ => h, fun h => absurd h (by omega)⟩⟩
          · exact ⟨p.2, im, rfl, rfl, s2, fun a h => .inr ⟨o1 (Nat.le_refl _), rfl, h⟩, fun h => ⟨fun _ => o1 (Nat.le_refl _), fun _ => h⟩⟩
        walk_at "rd"
        have e1 : ((wd.length : Int)).toNat = wd.length := by simp
        rw [e1]
        refine f_rng (fun a σ H' => Wd H [] H' [] ∧ (∀ j c : Nat, j < a → wd.cps[j]? = some c → c ∈ lt.cps.toList) ∧ ∃ x3 : Option V, σ = [some (.ref pl), some (.str ls), some (.str im), some (.int (i : Nat)), some (.int (s : Nat)), x3]) ⟨w2, fun j c h => absurd h (Nat.not_lt_zero _), _, rfl⟩ (fun a σ H' ha q => ?_) (fun σ H' q => ?_)
        · obtain ⟨w3, oc, x3, rfl⟩ := q
          have al : a < wd.cps.size := ha
          obtain ⟨c, hc⟩ : ∃ c, wd.cps[a]? = some c := ⟨_, Array.getElem?_eq_getElem al⟩
          have ec : atI wd.cps.toList (a : Int) = some c := atI_nat (by simpa using hc)
          walk_at "rd"
          refine ifn2 (fun hn => ?_) (fun hm => ?_)
          · walk_at "rd"
            rename_i T1 H5 n5 f5 w5 T2 H6 n6 f6 w6
            exact k2 (.word wd a) ⟨i, p, hp, hb a ⟨⟨c, hc, hn⟩, oc⟩, ok⟩ T2 H6 w6.fr f6 (w6.at (by walk_at "mem"))
          · walk_at "rd"
            rename_i T1 H5 n5 f5 w5
            refine ⟨w5.drop, fun j d hj hd => ?_, _, rfl⟩
            by_cases e : j = a
            · subst e
              rw [hc] at hd
              cases hd
              exact hm
            · exact oc j d (by omega) hd
        · obtain ⟨w3, oc, x3, rfl⟩ := q
          have ov : Over lt wd := fun j c hc => oc j c (Array.getElem?_eq_some_iff.mp hc).1 hc
          exact ⟨w3, (ho ov).1, (ho ov).2, _, _, rfl⟩
      · obtain ⟨w2, o1, o2, x2, x3, rfl⟩ := q
        walk_at "rd"
        refine ifn2 (fun hn => ?_) (fun he => ?_)
        · walk_at "rd"
          rename_i T2 H6 n6 f6 w6
          exact k2 (.text i) ⟨i, p, hp, ⟨rfl, o1 (by omega), o2 (Nat.le_refl _), fun z => hn (by rw [z])⟩, ok⟩ T2 H6 w6.fr f6 (w6.at (by walk_at "mem"))
        · walk_at "rd"
          refine ⟨w2, fun j q hj hq => ?_, _, _, _, rfl⟩
          by_cases e : j = i
          · subst e
            rw [hp] at hq
            cases hq
            exact ⟨o1 (by omega), o2 (Nat.le_refl _), by omega⟩
          · exact ok j q (by omega) hq
    · obtain ⟨w1, ok, x1, x2, x3, rfl⟩ := q
      walk_at "rd"
      exact k1 (fun j q hq => ok j q (List.getElem?_eq_some_iff.mp hq).1 hq) H' w1.fr
end
end TZ

namespace TZ
open PySem L2
theorem pe_cxs {X : Cx} {k j : Nat} {x : Str} {sp : Sp} {E : L2.St → XK} {p pos : Pos} {e : Expr} {es : List Expr} {t : TA} (c : CalX X.prog X.w X.K X.mg X.base (L2.CX X.prog X.w) k x sp) (hr : Room j X.A) (hk : k ≤ j) (hg : Gl X x) (hx : ∀ σ, PassesAt (L2.CX X.prog X.w) X σ (E σ)) (ha : PA X (e :: es) t)
    (hdb : (x == ("__debug__" : Str)) = false := by decide) (he : starEach (e :: es) X.env = (false, eval e X.env) :: starEach es X.env := by rfl) (hpl : (backTo pos (starEach es X.env)).any (·.1) = false := by rfl) :
    PE X (.Call (.Name x p) (e :: es) [] pos) (tCallS sp E t) := by
  obtain ⟨f, fd, ps, F, hm, kp, b⟩ := c.ex
  exact pe_callS F (hr.mono hk) hg hm kp b hx ha hdb he hpl
theorem FirstBad.uniq {ls im : Str} {ps : List (Str × Str)} {b b' : Bad} (h : FirstBad ls im ps b) (h' : FirstBad ls im ps b') : b = b' := by
  obtain ⟨k, p, hp, hb, ok⟩ := h
  obtain ⟨k', p', hp', hb', ok'⟩ := h'
  have nf : ∀ {k : Nat} {p : Str × Str} {b : Bad}, BadP ls im k p b → ¬ FineP ls im p := fun {k p b} hb f => by
    obtain ⟨f1, f2, f3⟩ := f
    cases b with
    | word w i =>
      rcases hb with ⟨_, ⟨c, hc, hn⟩, _⟩ | ⟨_, _, ⟨c, hc, hn⟩, _⟩
      · exact hn (f1 i c hc)
      · exact hn (f2 i c hc)
    | text j => exact hb.2.2.2 f3
  have e : k = k' := by
    rcases Nat.lt_trichotomy k k' with l | l | l
    · exact absurd (ok' k p l hp) (nf hb)
    · exact l
    · exact absurd (ok k' p' l hp') (nf hb')
  subst e
  rw [hp] at hp'
  cases hp'
  have bu : ∀ {l w : Str} {i j : Nat}, BadAt l w i → BadAt l w j → i = j := fun {l w i j} h1 h2 => by
    obtain ⟨⟨c, hc, hn⟩, a⟩ := h1
    obtain ⟨⟨d, hd, hm⟩, a'⟩ := h2
    rcases Nat.lt_trichotomy i j with l | l | l
    · exact absurd (a' i c l hc) hn
    · exact l
    · exact absurd (a j d l hd) hm
  have no : ∀ {l w : Str} {i : Nat}, BadAt l w i → ¬ Over l w := fun {l w i} h1 h2 => by
    obtain ⟨⟨c, hc, hn⟩, _⟩ := h1
    exact hn (h2 i c hc)
  cases b with
  | word w i =>
    cases b' with
    | word w' i' =>
      rcases hb with ⟨e1, h1⟩ | ⟨o1, e1, h1⟩ <;> rcases hb' with ⟨e2, h2⟩ | ⟨o2, e2, h2⟩
      · rw [e1, e2, bu h1 h2]
      · exact absurd o2 (no h1)
      · exact absurd o1 (no h2)
      · rw [e1, e2, bu h1 h2]
    | text j =>
      obtain ⟨_, o1, o2, _⟩ := hb'
      rcases hb with ⟨_, h1⟩ | ⟨_, _, h1⟩
      · exact absurd o1 (no h1)
      · exact absurd o2 (no h1)
  | text j =>
    cases b' with
    | word w' i' =>
      obtain ⟨_, o1, o2, _⟩ := hb
      rcases hb' with ⟨_, h1⟩ | ⟨_, _, h1⟩
      · exact absurd o1 (no h1)
      · exact absurd o2 (no h1)
    | text j' => rw [hb.1, hb'.1]
theorem FirstBad.not {ls im : Str} {ps : List (Str × Str)} {b : Bad} (h : FirstBad ls im ps b) : ¬ AllFine ls im ps := fun f => by
  obtain ⟨k, p, hp, hb, _⟩ := h
  obtain ⟨f1, f2, f3⟩ := f k p hp
  cases b with
  | word w i =>
    rcases hb with ⟨_, ⟨c, hc, hn⟩, _⟩ | ⟨_, _, ⟨c, hc, hn⟩, _⟩
    · exact hn (f1 i c hc)
    · exact hn (f2 i c hc)
  | text j => exact hb.2.2.2 f3
section
variable {K : PySem.W.Frag} {σ : L2.St} {H : Hp} {Q : VK} {a C D dd : Addr} {cls : Value} {d : Option Addr} {fs : List (Str × V)} {v : V} {b : Bool} {te : TE} {f : Str}
def XfQ (a : Addr) (cls : Value) (d : Option Addr) (C : Addr) (f : Str) (x : V) (H : Hp) (Q : VK) : Prop := x = .ref a ∧ cls = .ref C ∧ ∃ (dd : Addr) (fs : List (Str × V)) (v : V), d = some dd ∧ H dd = some (.xd fs) ∧ fs.lookup f = some v ∧ Q v H
theorem r_callS {sp : Sp} {E : L2.St → XK} {tl : TA} (k : tl σ H fun vs H1 => sp vs H1 Q (E σ)) : tCallS sp E tl σ H Q := k
theorem r_xf (k : te σ H fun x H1 => XfQ a cls d C f x H1 Q) : tXf a cls d C f te σ H Q := k
theorem r_xfW (h : H dd = some (.xd fs)) (l : fs.lookup f = some v) (k : Q v H) : XfQ a (.ref C) (some dd) C f (.ref a) H Q := ⟨rfl, rfl, dd, fs, v, rfl, h, l, k⟩
theorem r_isX (h : H dd = some (.xd fs)) (T : ExC K D) (e : PySem.W.kitOne K (.ref D) (.ref C) = some b) (k : Q (.bl b) H) : rIsX K a (.ref D) (some dd) [.ref a, .ref C] H Q := ⟨D, dd, fs, .ref C, .ref C, b, rfl, rfl, h, T, rfl, fun u r => r, e, k⟩
end
local macro_rules | `(tactic| walk_at "obj") => `(tactic| first | exact Wd.at (by assumption) (by walk_at "mem") | exact Wd.tup (by assumption) (by assumption) | assumption | exact Wd.keep (by assumption) (by assumption) (by (simp; done)))
local macro_rules | `(tactic| walk_at "seq") => `(tactic| first | exact sqL (Wd.at (by assumption) (by walk_at "mem")) | exact sqL (Wd.keep (by assumption) (by assumption) (by (simp; done))) | assumption)
local macro_rules | `(tactic| walk_at "rdd") => `(tactic| first | exact Or.inl (Wd.at (by assumption) (by walk_at "mem")) | exact Or.inr ⟨_, Wd.at (by assumption) (by walk_at "mem")⟩ | exact Or.inl (Wd.keep (by assumption) (by assumption) (by (simp; done))))
local macro_rules | `(tactic| walk_at "cd") => `(tactic| first | omega | exact ⟨by decide, by decide, by decide⟩ | exact Or.inl ⟨by decide, by decide⟩ | exact Or.inr ⟨by decide, by decide⟩ | exact Or.inl ⟨by omega, by omega⟩ | exact Or.inr ⟨by omega, by omega⟩ | exact ⟨by omega, by omega⟩)
local macro_rules | `(tactic| walk_at "mem") => `(tactic| ((repeat (first | exact List.Mem.head _ | apply List.Mem.tail)); done))
local macro_rules | `(tactic| walk_at "set") => `(tactic| (dsimp only [List.set]; try exact rfl))
local macro_rules | `(tactic| walk_at "own") => `(tactic| first | exact Or.inl (by walk_at "mem") | exact Or.inr (by assumption))
local macro_rules | `(tactic| walk_at "hi") => `(tactic| first | exact (rfl : (_ : List (Addr × HO))[0]? = _) | exact (rfl : (_ : List (Addr × HO))[1]? = _) | exact (rfl : (_ : List (Addr × HO))[2]? = _) | exact (rfl : (_ : List (Addr × HO))[3]? = _) | exact (rfl : (_ : List (Addr × HO))[4]? = _) | exact (rfl : (_ : List (Addr × HO))[5]? = _) | exact (rfl : (_ : List (Addr × HO))[6]? = _) | exact (rfl : (_ : List (Addr × HO))[7]? = _) | exact (rfl : (_ : List (Addr × HO))[8]? = _) | exact (rfl : (_ : List (Addr × HO))[9]? = _))
local macro_rules | `(tactic| walk_at "sz") => `(tactic| first | (show _ ≤ sizeLine; decide) | (refine sz_ok ?_; first | omega | (simp only [List.length_cons, List.length_nil, List.length_map, PySem.Str.length_append] <;> omega) | (simp; done)) | (refine TZ.sz_lt ?_; first | omega | (simp only [List.length_cons, List.length_nil, List.length_map, List.length_append, PySem.Str.length_append] <;> omega) | (simp; done)))
local macro_rules | `(tactic| walk_at "rd1") => `(tactic| first
  | with_reducible refine' r_seq ?_
  | ((with_reducible refine' r_var ?hv ?_); (case hv => exact rfl))
  | with_reducible refine' r_c ?_
  | with_reducible refine' r_op ?_
  | with_reducible refine' r_I0 ?_
  | ((with_reducible refine' r_set ?hv ?_); (case hv => walk_at "set"))
  | with_reducible refine' r_asg ?_
  | with_reducible refine' r_cons ?_
  | with_reducible refine' r_nil ?_
  | with_reducible refine' r_cb ?_
  | with_reducible refine' r_call0 ?_
  | with_reducible refine' r_test ?_
  | with_reducible refine' r_B ?_
  | with_reducible refine' r_bl ?_
  | with_reducible refine' r_ifS ?_
  | with_reducible refine' r_and ?_
  | with_reducible refine' r_or ?_
  | with_reducible refine' r_not ?_
  | with_reducible refine' r_andV ?_
  | with_reducible refine' r_orV ?_
  | with_reducible refine' r_notV ?_
  | with_reducible refine' r_ifE ?_
  | with_reducible refine' r_eqI ?_
  | with_reducible refine' r_neI ?_
  | with_reducible refine' r_eqS ?_
  | with_reducible refine' r_neS ?_
  | ((with_reducible refine' r_eq ?hv ?_); (case hv => exact rfl))
  | ((with_reducible refine' r_ne ?hv ?_); (case hv => exact rfl))
  | with_reducible refine' r_ret ?_
  | with_reducible refine' r_retN ?_
  | with_reducible refine' r_drop ?_
  | with_reducible refine' r_next ?_
  | with_reducible refine' r_cont ?_
  | with_reducible refine' r_brk ?_
  | with_reducible refine' r_asgS ?_
  | with_reducible refine' r_asgT ?_
  | with_reducible refine' r_gN ?_
  | with_reducible refine' r_gc ?_
  | with_reducible refine' r_gn ?_
  | with_reducible refine' r_tup ?_
  | with_reducible refine' r_lst ?_
  | with_reducible refine' r_sl ?_
  | with_reducible refine' r_nopart ?_
  | with_reducible refine' r_part ?_
  | with_reducible refine' r_partI ?_
  | with_reducible refine' r_un ?_
  | with_reducible refine' r_U ?_
  | with_reducible refine' r_int1 ?_
  | with_reducible refine' r_l1 ?_
  | with_reducible refine' r_l2 ?_
  | with_reducible refine' r_sign ?_
  | with_reducible refine' r_refl ?_
  | with_reducible refine' r_bm ?_
  | with_reducible refine' r_bm0 ?_
  | ((with_reducible refine' r_I ?hv ?_); (case hv => walk_at "cd"))
  | ((with_reducible refine' r_ixL ?hs ?he ?_); (case hs => walk_at "seq"); (case he => first | assumption | exact rfl))
  | ((with_reducible refine' r_ixT ?hs ?he ?_); (case hs => walk_at "obj"); (case he => first | assumption | exact rfl))
  | ((with_reducible refine' r_lenL ?hs ?_); (case hs => walk_at "seq"))
  | ((with_reducible refine' r_lenT ?hs ?_); (case hs => walk_at "obj"))
  | ((with_reducible refine' r_tyL ?hs ?_); (case hs => walk_at "seq"))
  | ((with_reducible refine' r_setW ?w ?hi ?own ?e ?hy ?hL ?_); (case w => assumption); (case hi => walk_at "hi"); (case own => walk_at "own"); (case e => first | assumption | exact rfl); (case hy => walk_at "set"); (case hL => walk_at "set"); intro _ _)
  | ((with_reducible refine' r_mkT ?w ?hs ?_); (case w => assumption); (case hs => walk_at "sz"); intro _ _ _ _ _)
  | ((with_reducible refine' r_mkL ?w ?hs ?_); (case w => assumption); (case hs => walk_at "sz"); intro _ _ _ _ _)
  | with_reducible refine' r_for ?_
  | with_reducible refine' r_iList ?_
  | with_reducible refine' r_iRng1 ?_
  | with_reducible refine' r_iStr ?_
  | with_reducible refine' r_iEs ?_
  | with_reducible refine' r_iEl ?_
  | with_reducible refine' r_StQ ?_
  | with_reducible refine' r_EsQ ?_
  | ((with_reducible refine' r_RgQ ?hv ?_); (case hv => first | omega | assumption))
  | ((with_reducible refine' r_LsQ ?hs ?_); (case hs => walk_at "seq"))
  | ((with_reducible refine' r_ElQ ?hs ?_); (case hs => walk_at "seq"))
  | with_reducible refine' r_lc ?_
  | with_reducible refine' r_make ?_
  | with_reducible refine' r_dget ?_
  | with_reducible refine' r_din ?_
  | with_reducible refine' r_dnin ?_
  | with_reducible refine' r_dput ?_
  | with_reducible refine' r_dsetd ?_
  | with_reducible refine' r_fld ?_
  | with_reducible refine' r_fset ?_
  | ((with_reducible refine' r_dinS ?hs ?_); (case hs => walk_at "rdd"))
  | ((with_reducible refine' r_dgetS ?hs ?e ?_); (case hs => walk_at "rdd"); (case e => assumption))
  | ((with_reducible refine' r_ds0 ?hs ?_); (case hs => walk_at "obj"))
  | ((with_reducible refine' r_dputS ?w ?hi ?own ?hl ?hL ?_); (case w => assumption); (case hi => walk_at "hi"); (case own => walk_at "own"); (case hl => first | assumption | walk_at "sz"); (case hL => walk_at "set"); intro _ _)
  | ((with_reducible refine' r_dnew ?w ?_); (case w => assumption); intro _ _ _ _ _)
  | ((with_reducible refine' r_lenD ?hs ?_); (case hs => walk_at "obj"))
  | ((with_reducible refine' r_fldW ?hs ?c ?nf ?l ?_); (case hs => walk_at "obj"); (case c => assumption); (case nf => assumption); (case l => exact rfl))
  | ((with_reducible refine' r_lenS ?hs ?_); (case hs => walk_at "sz"))
  | ((with_reducible refine' r_slS ?hs ?_); (case hs => walk_at "sz"))
  | ((with_reducible refine' r_cat ?hs ?_); (case hs => walk_at "sz"))
  | ((with_reducible refine' r_ixS ?hs ?e ?_); (case hs => walk_at "sz"); (case e => assumption))
  | ((with_reducible refine' r_appW ?w ?hi ?own ?e ?hL ?_); (case w => assumption); (case hi => walk_at "hi"); (case own => walk_at "own"); (case e => walk_at "sz"); (case hL => walk_at "set"); intro _ _)
  | ((with_reducible refine' r_viewS ?hz ?_); (case hz => omega))
  | ((with_reducible refine' r_wordW ?w ?ov ?_); (case w => assumption); (case ov => assumption); intro _ _)
  | ((with_reducible refine' r_nextS ?w ?hi ?hc ?own ?ne ?n0 ?n1 ?hL ?_); (case w => assumption); (case hi => walk_at "hi"); (case hc => walk_at "mem"); (case own => walk_at "own"); (case ne => assumption); (case n0 => omega); (case n1 => omega); (case hL => intro _ _ _; walk_at "set"); intro _ _ _ _ _ _ _ _)
  | ((with_reducible refine' r_gT ?h ?e ?_); (case h => walk_at "obj"); (case e => exact rfl))
  | with_reducible refine' r_callO ?_
  | with_reducible refine' r_co0 ?_
  | ((with_reducible refine' r_co1 ?h ?_); (case h => walk_at "obj"))
  | with_reducible refine' r_iKeys ?_
  | ((with_reducible refine' r_KyQ ?h ?_); (case h => walk_at "obj"))
  | ((with_reducible refine' r_isTT ?h ?_); (case h => walk_at "obj"))
  | with_reducible refine' r_isII ?_
  | with_reducible refine' r_integer ?_
  | with_reducible refine' r_isIB ?_
  | ((with_reducible refine' r_isDD ?h ?_); (case h => walk_at "obj"))
  | ((with_reducible refine' r_isCC ?c ?h ?_); (case c => assumption); (case h => walk_at "obj"))
  | with_reducible refine' r_ss ?_
  | with_reducible refine' ifNT ?_
  | with_reducible refine' ifNF ?_
  | with_reducible refine' ifT ?_
  | with_reducible refine' ifF ?_)
local macro_rules | `(tactic| walk_at "rd") => `(tactic| repeat walk_at "rd1")
local macro_rules | `(tactic| walk_at "br") => `(tactic| first | with_reducible refine' if2 (fun _ => ?_) (fun _ => ?_) | with_reducible refine' ifn2 (fun _ => ?_) (fun _ => ?_) | with_reducible refine' ifb (fun _ => ?_) (fun _ => ?_) | with_reducible refine' ifnb (fun _ => ?_) (fun _ => ?_))
local macro_rules | `(tactic| walk_at "rdb") => `(tactic| repeat' (first | walk_at "rd1" | walk_at "br"))
local macro_rules | `(tactic| walk_at "bro") => `(tactic| first | with_reducible refine if2 (fun h => (by exfalso; omega)) (fun _ => ?_) | with_reducible refine if2 (fun _ => ?_) (fun h => (by exfalso; omega)) | with_reducible refine ifn2 (fun h => (by exfalso; omega)) (fun _ => ?_) | with_reducible refine ifn2 (fun _ => ?_) (fun h => (by exfalso; omega)) | with_reducible refine if2 (fun _ => ?_) (fun h => absurd rfl h) | with_reducible refine ifn2 (fun h => absurd rfl h) (fun _ => ?_) | with_reducible refine if2 (fun h => nomatch h) (fun _ => ?_) | with_reducible refine ifn2 (fun _ => ?_) (fun h => nomatch h))
local macro_rules | `(tactic| walk_at "rdo") => `(tactic| repeat (first | walk_at "rd1" | walk_at "bro"))

section
variable {P : Program} {w : World} {K : PySem.W.Frag} {mg : Str → Option Value} {base : Heap} {ad : Ad}
abbrev s_law_refused : Stmt := topS 30
theorem sc_law_refused : FnScope ["letters", "images", "size", "pairs", "bad", "e"] ["letters", "images", "size", "pairs", "bad"] (defScope s_law_refused) := ⟨rfl, rfl, rfl, by decide +kernel, rfl, by decide +kernel, by decide +kernel⟩
def t_isE (K : PySem.W.Frag) (C : Addr) : Addr → Value → Option Addr → TE := fun a cls d => tCB (rIsX K a cls d) (tCons (tVar 5) (tCons (tC (.ref C)) tNil))
def t_suite (K : PySem.W.Frag) (ad : Ad) : Addr → Value → Option Addr → TS := fun a cls d =>
  tSeq (tIfS (tTest (tOp rEq (tOp (rIxT K) (tVar 4) (tC (.int 0))) (tC (.str "text"))))
    (tRet (tAndV (t_isE K ad.ct a cls d) (tAndV (tNotV (t_isE K ad.cw a cls d)) (tOp rEq (tXf a cls d ad.ct "line" (tVar 5)) (tOp (rIxT K) (tVar 4) (tC (.int 1))))))) tNext)
  (tRet (tAndV (t_isE K ad.cw a cls d) (tAndV (tNotV (t_isE K ad.ct a cls d)) (tAndV (tOp rEq (tXf a cls d ad.cw "word" (tVar 5)) (tOp (rIxT K) (tVar 4) (tC (.int 1)))) (tOp rEq (tXf a cls d ad.cw "place" (tVar 5)) (tOp (rIxT K) (tVar 4) (tC (.int 2))))))))
def spRefused (ad : Ad) : Sp := fun vs H Q E => ∃ (pl bd : Addr) (ts : List Addr) (ps : List (Str × Str)) (ls im : Str) (n : Int) (b : Bad), vs = [.str ls, .str im, .int n, .ref pl, .ref bd] ∧ GoodL ls ∧ GoodL im ∧ H pl = some (.lst (ts.map V.ref)) ∧ Tups H ts ps ∧ Small ps ∧ FirstBad ls im ps b ∧ H bd = some b.tup ∧ ∀ H', Frm [] H H' → Q (.bl true) H'
theorem w_law_refused (T : Txt K mg ad) {fW fT : Addr} (EW : ErrC K mg "BadWord" ad.cw fW) (ET : ErrC K mg "BadText" ad.ct fT) (c_fit_turner : CalX P w K mg base (L2.CX P w) 5 "fit_turner" (spFit ad)) {f : Addr} {fd : FuncData} (F : Fun K "_law_refused" "_law_refused" s_law_refused f fd) : FnOk P w K mg base L2.CX0 6 f fd ["letters", "images", "size", "pairs", "bad"] (spRefused ad) := by
  refine F.ok sc_law_refused (fun vs H Q E h => ?_) (fun cdv A outer s H vs Q E hr h => ?_)
  · obtain ⟨pl, bd, ts, ps, ls, im, n, b, rfl, _⟩ := h
    rfl
  · obtain ⟨pl, bd, ts, ps, ls, im, n, b, rfl, gl, gi, h1, tu, sm, fb, hb, k⟩ := h
    refine ⟨_, pss_cons (ps_try_as (i := 5) (tb := fun W => tDrop (tCallS (spFit ad) (WE W) (tCons (tVar 0) (tCons (tVar 1) (tCons (tVar 2) (tCons (tVar 3) tNil)))))) (ts := t_suite K ad) (Wout := fun _ _ _ _ => False) rfl rfl sc_law_refused.nd rfl rfl ⟨rfl, by decide, Or.inl T.g_LanguageError⟩ takes0
      (fun W pn xe tk _ => pss_one (ps_expr (pe_cxs c_fit_turner hr (by decide) rfl (fun σ => passAt tk σ) (pa_cons (pv 0) (pa_cons (pv 1) (pa_cons (pv 2) (pa_cons (pv 3) pa_nil)))))))
      (fun a oe cls d pn hz hf => pss_cons (ps_if (pt_cmpR op_eq (pe_ix ix_tup (pv 4) pe_int (fun _ _ => rfl)) pe_str (nomark _))
          (pss_one (ps_ret (pe_and (pe_callB (call_isX hz hf) (by rfl) T.n_isinstance (by decide +kernel) (pa_cons (pv 5) (pa_cons (pe_gr rfl T.g_BadText) pa_nil))) (pe_and (pe_not (pe_callB (call_isX hz hf) (by rfl) T.n_isinstance (by decide +kernel) (pa_cons (pv 5) (pa_cons (pe_gr rfl T.g_BadWord) pa_nil)))) (pe_one (pe_cmpR op_eq (pe_xf ET.xf T.noL hz hf (pv 5)) (pe_ix ix_tup (pv 4) pe_int (fun _ _ => rfl)) (nomark _))))))) pss_nil)
        (pss_one (ps_ret (pe_and (pe_callB (call_isX hz hf) (by rfl) T.n_isinstance (by decide +kernel) (pa_cons (pv 5) (pa_cons (pe_gr rfl T.g_BadWord) pa_nil))) (pe_and (pe_not (pe_callB (call_isX hz hf) (by rfl) T.n_isinstance (by decide +kernel) (pa_cons (pv 5) (pa_cons (pe_gr rfl T.g_BadText) pa_nil)))) (pe_and (pe_cmpR op_eq (pe_xf EW.xf T.noW hz hf (pv 5)) (pe_ix ix_tup (pv 4) pe_int (fun _ _ => rfl)) (nomark _)) (pe_one (pe_cmpR op_eq (pe_xf EW.xf T.noP hz hf (pv 5)) (pe_ix ix_tup (pv 4) pe_int (fun _ _ => rfl)) (nomark _))))))))))
      (pss_one (ps_ret pe_bl)), ?_⟩
    try simp only [cxK, cxKX]
    show (_ : TS) (_ : Ends) [some _, some _, some _, some _, some _, none] _
    refine r_callS ?_
    walk_at "rd"
    have WE' : ∀ (b' : Bad), FirstBad ls im ps b' → ∀ (d : Addr) (H' : Hp), Frm [] H H' → H d = none → H' d = some b'.obj →
        wAs K (Value.ref ad.cl) 5 (t_suite K ad) (fun _ _ _ _ => False) { nx := tRet (tC (V.bl false)) { nx := fun _ H' => Q V.non H', rt := Q }, rt := Q } (b'.cls ad) (some d) [some (V.str ls), some (V.str im), some (V.int n), some (V.ref pl), some (V.ref bd), none] H' := by
      intro b' fb' d H' f' nd hd
      rw [← fb.uniq fb'] at hd ⊢
      have hbd : H' bd = some b.tup := f'.keep _ _ hb (by simp)
      cases b with
      | word w i =>
        refine ⟨true, T.xw, fun _ a na => ?_, fun z => by cases z⟩
        have htp : H' bd = some (.tup [.str "word", .str w, .int i]) := hbd
        show t_suite K ad a (.ref ad.cw) (some d) _ _ _
        simp only [t_suite, t_isE]
        dsimp only [List.set]
        walk_at "rd"
        refine if2 (fun h => absurd h (by decide)) (fun _ => ?_)
        walk_at "rd"
        refine r_isX hd EW.ex T.kww ?_
        walk_at "rd"
        refine r_isX hd EW.ex T.kwt ?_
        walk_at "rd"
        refine r_xf ?_
        walk_at "rd"
        refine r_xfW hd rfl ?_
        walk_at "rd"
        rw [if_pos (by simp)]
        refine r_xf ?_
        walk_at "rd"
        refine r_xfW hd rfl ?_
        walk_at "rd"
        simpa using k H' f'
      | text j =>
        refine ⟨true, T.xt, fun _ a na => ?_, fun z => by cases z⟩
        have htp : H' bd = some (.tup [.str "text", .int j, .int 0]) := hbd
        show t_suite K ad a (.ref ad.ct) (some d) _ _ _
        simp only [t_suite, t_isE]
        dsimp only [List.set]
        walk_at "rd"
        refine if2 (fun _ => ?_) (fun h => absurd rfl h)
        walk_at "rd"
        refine r_isX hd ET.ex T.ktt ?_
        walk_at "rd"
        refine r_isX hd ET.ex T.ktw ?_
        walk_at "rd"
        refine r_xf ?_
        walk_at "rd"
        refine r_xfW hd rfl ?_
        walk_at "rd"
        simpa using k H' f'
    exact ⟨pl, ts, ps, ls, im, n, rfl, gl, gi, h1, tu, sm, fun fine => absurd fine fb.not, fun fine => absurd fine fb.not, WE'⟩
end
end TZ

namespace TZ
open PySem L2
/-! ### == and != of two lists of the same objects -/
section
variable {X : Cx} {K : PySem.W.Frag} {H H0 : Hp} {σ : L2.St} {Q : VK} {a b : Addr} {ts : List Addr}
theorem vals_refs : ∀ {ts : List Addr} {us : List Value}, Vals (ts.map V.ref) us → us = ts.map Value.ref
  | [], _, .nil => rfl
  | t :: ts, _, .cons r r' => by
    cases r
    rw [vals_refs r']
    rfl
def rEqA (K : PySem.W.Frag) (c : Bool) : R2 := fun x y H Q => ∃ (a b : Addr) (ts : List Addr), x = .ref a ∧ y = .ref b ∧ SqL K H a (ts.map V.ref) ∧ SqL K H b (ts.map V.ref) ∧ Q (.bl c) H
theorem all_true (n : Nat) : ((List.range n).all fun _ => true) = true := by simp
theorem op_eqA (hu : X.A.units + 64 < cLine) : OpR X (compareOp .Eq) (rEqA X.K true) := by
  intro pins s σ H x y v u Q I rx ry h
  obtain ⟨a, b, ts, rfl, rfl, ha, hb, q⟩ := h
  obtain ⟨as, r1, l1, _⟩ := I.list ha
  obtain ⟨bs, r2, l2, _⟩ := I.list hb
  have e1 := vals_refs r1
  have e2 := vals_refs r2
  subst e1 e2
  cases rx
  cases ry
  refine SeqAt.eq_listAt (e := fun _ => true) l1.isList l2.isList rfl (by omega) (fun j h1 h2 => SeqAt.EqAt.same _) ?_
  rw [all_true]
  exact ⟨.bl _, H, I, rfl, q⟩
theorem op_neA (hu : X.A.units + 64 < cLine) : OpR X (compareOp .NotEq) (rEqA X.K false) := by
  intro pins s σ H x y v u Q I rx ry h
  obtain ⟨a, b, ts, rfl, rfl, ha, hb, q⟩ := h
  obtain ⟨as, r1, l1, _⟩ := I.list ha
  obtain ⟨bs, r2, l2, _⟩ := I.list hb
  have e1 := vals_refs r1
  have e2 := vals_refs r2
  subst e1 e2
  cases rx
  cases ry
  refine SeqAt.RcNeAt.lists (e := fun _ => true) l1.isList l2.isList rfl (by omega) (fun j h1 h2 => SeqAt.EqAt.same _) _ _ _ _ ?_
  rw [all_true]
  exact ⟨.bl _, H, I, rfl, q⟩
theorem r_eqA {c : Bool} (h1 : SqL K H a (ts.map V.ref)) (h2 : SqL K H b (ts.map V.ref)) (k : Q (.bl c) H) : rEqA K c (.ref a) (.ref b) H Q := ⟨a, b, ts, rfl, rfl, h1, h2, k⟩
/-! ### a join -/
theorem r_cut {t : TS} {N : L2.St → Hp → Prop} {rt : VK} {bk ct : L2.St → Hp → Prop} (J : L2.St → Hp → Prop) (h1 : ∀ N : L2.St → Hp → Prop, (∀ σ H, J σ H → N σ H) → t ⟨N, rt, bk, ct⟩ σ H) (h2 : ∀ σ H, J σ H → N σ H) : t ⟨N, rt, bk, ct⟩ σ H := h1 N h2
/-- the ledger laid anew at a later heap -/
theorem Wd.again {H1 : Hp} {ms ns : List Addr} {L L' : List (Addr × HO)} (w : Wd H0 ms H L) (hL : L'.map (·.1) = L.map (·.1)) (h : ∀ p ∈ L', H1 p.1 = some p.2) : Wd H1 ns H1 L' := ⟨by rw [hL]; exact w.nd, h, Frm.refl _ _⟩
theorem Wd.cut {ms : List Addr} {L L' : List (Addr × HO)} (w : Wd H0 ms H L) (s : L'.Sublist L) : Wd H0 ms H L' := ⟨w.nd.sublist (s.map _), fun p hp => w.at' p (s.subset hp), w.fr⟩
theorem r_listOf {n : Addr} {ms : List Addr} {L : List (Addr × HO)} {xs : List V} (w : Wd H0 ms H L) (h : SqL K H n xs) (k : ∀ p H1, H p = none → H0 p = none → Wd H0 ms H1 ((p, .lst xs) :: L) → Q (.ref p) H1) :
    ∃ p ys, [V.ref n] = [.ref p] ∧ (SqL K H p ys ∨ SqT K H p ys) ∧ ∀ l, H l = none → Q (.ref l) (upd H l (.lst ys)) := ⟨n, xs, rfl, .inl h, fun l hl => k l _ hl (w.free hl) (w.new hl)⟩
end
end TZ

namespace TZ
open PySem L2
/-! ### law itself -/
theorem goodL_dec {z : Str} (h1 : 1 ≤ z.length ∧ z.length ≤ 4) (h3 : ((List.range 4).all fun i => (z.cps[i]?).all fun c => decide (97 ≤ c) && decide (c ≤ 122)) = true) (h4 : ((List.range 4).all fun i => (z.cps[i]?).all fun c => (z.cps[i + 1]?).all fun c' => decide (c < c')) = true) : GoodL z := by
  have sm : ∀ (i c : Nat), z.cps[i]? = some c → i < 4 := fun i c h => by
    have hz : z.length = z.cps.size := rfl
    have := (Array.getElem?_eq_some_iff.mp h).1
    omega
  refine ⟨h1.1, h1.2, fun i c h => ?_, fun i c c' h h' => ?_⟩
  · have := List.all_eq_true.mp h3 i (List.mem_range.mpr (sm i c h))
    rw [h] at this
    simpa using this
  · have := List.all_eq_true.mp h4 i (List.mem_range.mpr (sm i c h))
    rw [h, h'] at this
    simpa using this
theorem six {r : Int} {P : Int → Prop} (h0 : 0 ≤ r) (h1 : r < 6) (p : P 0 ∧ P 1 ∧ P 2 ∧ P 3 ∧ P 4 ∧ P 5) : P r := by
  obtain ⟨p0, p1, p2, p3, p4, p5⟩ := p
  have : r = 0 ∨ r = 1 ∨ r = 2 ∨ r = 3 ∨ r = 4 ∨ r = 5 := by omega
  rcases this with rfl | rfl | rfl | rfl | rfl | rfl <;> assumption
theorem lets {r : Int} (h0 : 0 ≤ r) (h1 : r < 6) : ∃ ls, atI [V.str "ab", V.str "a", V.str "abc", V.str "bd", V.str "acz", V.str "abcd"] r = some (.str ls) ∧ GoodL ls :=
  six (P := fun r => ∃ ls, atI [V.str "ab", V.str "a", V.str "abc", V.str "bd", V.str "acz", V.str "abcd"] r = some (.str ls) ∧ GoodL ls) h0 h1
    ⟨⟨_, rfl, goodL_dec (by decide +kernel) (by decide +kernel) (by decide +kernel)⟩, ⟨_, rfl, goodL_dec (by decide +kernel) (by decide +kernel) (by decide +kernel)⟩, ⟨_, rfl, goodL_dec (by decide +kernel) (by decide +kernel) (by decide +kernel)⟩,
     ⟨_, rfl, goodL_dec (by decide +kernel) (by decide +kernel) (by decide +kernel)⟩, ⟨_, rfl, goodL_dec (by decide +kernel) (by decide +kernel) (by decide +kernel)⟩, ⟨_, rfl, goodL_dec (by decide +kernel) (by decide +kernel) (by decide +kernel)⟩⟩
theorem imgs {r : Int} (h0 : 0 ≤ r) (h1 : r < 6) : ∃ ls, atI [V.str "ab", V.str "xy", V.str "pqrs", V.str "z", V.str "abc", V.str "bd"] r = some (.str ls) ∧ GoodL ls :=
  six (P := fun r => ∃ ls, atI [V.str "ab", V.str "xy", V.str "pqrs", V.str "z", V.str "abc", V.str "bd"] r = some (.str ls) ∧ GoodL ls) h0 h1
    ⟨⟨_, rfl, goodL_dec (by decide +kernel) (by decide +kernel) (by decide +kernel)⟩, ⟨_, rfl, goodL_dec (by decide +kernel) (by decide +kernel) (by decide +kernel)⟩, ⟨_, rfl, goodL_dec (by decide +kernel) (by decide +kernel) (by decide +kernel)⟩,
     ⟨_, rfl, goodL_dec (by decide +kernel) (by decide +kernel) (by decide +kernel)⟩, ⟨_, rfl, goodL_dec (by decide +kernel) (by decide +kernel) (by decide +kernel)⟩, ⟨_, rfl, goodL_dec (by decide +kernel) (by decide +kernel) (by decide +kernel)⟩⟩
theorem keys_put {kvs : List (Key × V)} {s : Str} {v : V} (h : ∀ p ∈ kvs, ∃ z, p.1 = Sum.inr z) : ∀ p ∈ putK kvs (Sum.inr s) v, ∃ z, p.1 = Sum.inr z := fun p hp => by
  unfold putK at hp
  split at hp
  · obtain ⟨q, hq, rfl⟩ := List.mem_map.mp hp
    split
    · exact ⟨s, by assumption⟩
    · exact h q hq
  · rcases List.mem_append.mp hp with hp | hp
    · exact h p hp
    · rw [List.mem_singleton.mp hp]
      exact ⟨s, rfl⟩
theorem tabJ_keysM {p : Str × Str} {n : Int} {kvs : List (Key × V)} (h : ∀ p ∈ kvs, ∃ z, p.1 = Sum.inr z) : ∀ j, ∀ q ∈ tabJ p n kvs j, ∃ z, q.1 = Sum.inr z
  | 0 => h
  | j + 1 => keys_put (tabJ_keysM h j)
theorem tabI_keysM {ps : List (Str × Str)} {n : Int} : ∀ i, ∀ q ∈ tabI ps n i, ∃ z, q.1 = Sum.inr z
  | 0 => fun q hq => by cases hq
  | i + 1 => tabJ_keysM (tabI_keysM i) _
theorem tabI_keys {ps : List (Str × Str)} {n : Int} (i : Nat) : ∀ (j : Nat) (k : Key) (v : V), (tabI ps n i)[j]? = some (k, v) → ∃ s, k = Sum.inr s := fun j k v e => tabI_keysM i _ (List.mem_of_getElem? e)
theorem imgK_take {kvs : List (Key × V)} {ps : List (Str × Str)} {n : Int} (seen : SeenT kvs ps n ps.length 0) {p : Str × Str} (hp : p ∈ ps) (ev : p.1.length = p.2.length) : ∀ i, i ≤ p.1.length → imgK kvs p.1 n i = some ⟨(p.2.cps.toList.take i).toArray⟩
  | 0, _ => by simp [imgK]; rfl
  | i + 1, h => by
    obtain ⟨k, hk⟩ := List.mem_iff_getElem?.mp hp
    have kl := (List.getElem?_eq_some_iff.mp hk).1
    have il : i < p.2.cps.size := by
      have : p.2.length = p.2.cps.size := rfl
      omega
    have hc : p.2.cps[i]? = some p.2.cps[i] := by simp [il]
    rw [imgK_go (imgK_take seen hp ev i (by omega)) (seen k i _ p (.inl kl) hk (by omega) hc)]
    congr 1
    show Str.mk _ = Str.mk _
    congr 1
    rw [List.take_add_one]
    have e : p.2.cps.toList[i]? = some p.2.cps[i] := by simp [il]
    rw [e]
    simp
theorem imgK_own {kvs : List (Key × V)} {ps : List (Str × Str)} {n : Int} (seen : SeenT kvs ps n ps.length 0) {p : Str × Str} (hp : p ∈ ps) (ev : p.1.length = p.2.length) : imgK kvs p.1 n p.1.length = some p.2 := by
  rw [imgK_take seen hp ev _ (Nat.le_refl _), ev]
  have e : p.2.length = p.2.cps.toList.length := by
    show p.2.cps.size = _
    simp
  rw [e, List.take_length]
theorem Tups.snoc {H : Hp} {ts : List Addr} {ps : List (Str × Str)} {t : Addr} {p : Str × Str} (h : Tups H ts ps) (e : H t = some (.tup [.str p.1, .str p.2])) : Tups H (ts ++ [t]) (ps ++ [p]) := by
  refine ⟨by simp [h.1], fun i u q hu hq => ?_⟩
  by_cases hi : i < ts.length
  · rw [List.getElem?_append_left hi] at hu
    rw [List.getElem?_append_left (by rw [← h.1]; exact hi)] at hq
    exact h.2 i u q hu hq
  · rw [List.getElem?_append_right (by omega)] at hu
    rw [List.getElem?_append_right (by rw [← h.1]; omega), ← h.1] at hq
    have z : i - ts.length = 0 := by
      have := (List.getElem?_eq_some_iff.mp hu).1
      simp at this
      omega
    rw [z] at hu hq
    cases hu
    cases hq
    exact e
local macro_rules | `(tactic| walk_at "obj") => `(tactic| first | exact Wd.at (by assumption) (by walk_at "mem") | exact Wd.tup (by assumption) (by assumption) | assumption | exact Wd.keep (by assumption) (by assumption) (by (simp; done)))
local macro_rules | `(tactic| walk_at "seq") => `(tactic| first | exact sqL (Wd.at (by assumption) (by walk_at "mem")) | exact sqL (Wd.keep (by assumption) (by assumption) (by (simp; done))) | assumption)
local macro_rules | `(tactic| walk_at "rdd") => `(tactic| first | exact Or.inl (Wd.at (by assumption) (by walk_at "mem")) | exact Or.inr ⟨_, Wd.at (by assumption) (by walk_at "mem")⟩ | exact Or.inl (Wd.keep (by assumption) (by assumption) (by (simp; done))))
local macro_rules | `(tactic| walk_at "cd") => `(tactic| first | omega | exact ⟨by decide, by decide, by decide⟩ | exact Or.inl ⟨by decide, by decide⟩ | exact Or.inr ⟨by decide, by decide⟩ | exact Or.inl ⟨by omega, by omega⟩ | exact Or.inr ⟨by omega, by omega⟩ | exact ⟨by omega, by omega⟩)
local macro_rules | `(tactic| walk_at "mem") => `(tactic| ((repeat (first | exact List.Mem.head _ | apply List.Mem.tail)); done))
local macro_rules | `(tactic| walk_at "set") => `(tactic| (dsimp only [List.set]; try exact rfl))
local macro_rules | `(tactic| walk_at "own") => `(tactic| first | exact Or.inl (by walk_at "mem") | exact Or.inr (by assumption))
local macro_rules | `(tactic| walk_at "hi") => `(tactic| first | exact (rfl : (_ : List (Addr × HO))[0]? = _) | exact (rfl : (_ : List (Addr × HO))[1]? = _) | exact (rfl : (_ : List (Addr × HO))[2]? = _) | exact (rfl : (_ : List (Addr × HO))[3]? = _) | exact (rfl : (_ : List (Addr × HO))[4]? = _) | exact (rfl : (_ : List (Addr × HO))[5]? = _) | exact (rfl : (_ : List (Addr × HO))[6]? = _) | exact (rfl : (_ : List (Addr × HO))[7]? = _) | exact (rfl : (_ : List (Addr × HO))[8]? = _) | exact (rfl : (_ : List (Addr × HO))[9]? = _))
local macro_rules | `(tactic| walk_at "sz") => `(tactic| first | (show _ ≤ sizeLine; decide) | (refine sz_ok ?_; first | omega | (simp only [List.length_cons, List.length_nil, List.length_map, PySem.Str.length_append] <;> omega) | (simp; done)) | (refine TZ.sz_lt ?_; first | omega | (simp only [List.length_cons, List.length_nil, List.length_map, List.length_append, PySem.Str.length_append] <;> omega) | (simp; done)))
local macro_rules | `(tactic| walk_at "rd1") => `(tactic| first
  | with_reducible refine' r_seq ?_
  | ((with_reducible refine' r_var ?hv ?_); (case hv => exact rfl))
  | with_reducible refine' r_c ?_
  | with_reducible refine' r_op ?_
  | with_reducible refine' r_I0 ?_
  | ((with_reducible refine' r_set ?hv ?_); (case hv => walk_at "set"))
  | with_reducible refine' r_asg ?_
  | with_reducible refine' r_cons ?_
  | with_reducible refine' r_nil ?_
  | with_reducible refine' r_cb ?_
  | with_reducible refine' r_call0 ?_
  | with_reducible refine' r_test ?_
  | with_reducible refine' r_B ?_
  | with_reducible refine' r_bl ?_
  | with_reducible refine' r_ifS ?_
  | with_reducible refine' r_and ?_
  | with_reducible refine' r_or ?_
  | with_reducible refine' r_not ?_
  | with_reducible refine' r_andV ?_
  | with_reducible refine' r_orV ?_
  | with_reducible refine' r_notV ?_
  | with_reducible refine' r_ifE ?_
  | with_reducible refine' r_eqI ?_
  | with_reducible refine' r_neI ?_
  | with_reducible refine' r_eqS ?_
  | with_reducible refine' r_neS ?_
  | ((with_reducible refine' r_eq ?hv ?_); (case hv => exact rfl))
  | ((with_reducible refine' r_ne ?hv ?_); (case hv => exact rfl))
  | with_reducible refine' r_ret ?_
  | with_reducible refine' r_retN ?_
  | with_reducible refine' r_drop ?_
  | with_reducible refine' r_next ?_
  | with_reducible refine' r_cont ?_
  | with_reducible refine' r_brk ?_
  | with_reducible refine' r_asgS ?_
  | with_reducible refine' r_asgT ?_
  | with_reducible refine' r_gN ?_
  | with_reducible refine' r_gc ?_
  | with_reducible refine' r_gn ?_
  | with_reducible refine' r_tup ?_
  | with_reducible refine' r_lst ?_
  | with_reducible refine' r_sl ?_
  | with_reducible refine' r_nopart ?_
  | with_reducible refine' r_part ?_
  | with_reducible refine' r_partI ?_
  | with_reducible refine' r_un ?_
  | with_reducible refine' r_U ?_
  | with_reducible refine' r_int1 ?_
  | with_reducible refine' r_l1 ?_
  | with_reducible refine' r_l2 ?_
  | with_reducible refine' r_sign ?_
  | with_reducible refine' r_refl ?_
  | with_reducible refine' r_bm ?_
  | with_reducible refine' r_bm0 ?_
  | ((with_reducible refine' r_I ?hv ?_); (case hv => walk_at "cd"))
  | ((with_reducible refine' r_ixL ?hs ?he ?_); (case hs => walk_at "seq"); (case he => first | assumption | exact rfl))
  | ((with_reducible refine' r_ixT ?hs ?he ?_); (case hs => walk_at "obj"); (case he => first | assumption | exact rfl))
  | ((with_reducible refine' r_lenL ?hs ?_); (case hs => walk_at "seq"))
  | ((with_reducible refine' r_lenT ?hs ?_); (case hs => walk_at "obj"))
  | ((with_reducible refine' r_tyL ?hs ?_); (case hs => walk_at "seq"))
  | ((with_reducible refine' r_setW ?w ?hi ?own ?e ?hy ?hL ?_); (case w => assumption); (case hi => walk_at "hi"); (case own => walk_at "own"); (case e => first | assumption | exact rfl); (case hy => walk_at "set"); (case hL => walk_at "set"); intro _ _)
  | ((with_reducible refine' r_mkT ?w ?hs ?_); (case w => assumption); (case hs => walk_at "sz"); intro _ _ _ _ _)
  | ((with_reducible refine' r_mkL ?w ?hs ?_); (case w => assumption); (case hs => walk_at "sz"); intro _ _ _ _ _)
  | with_reducible refine' r_for ?_
  | with_reducible refine' r_iList ?_
  | with_reducible refine' r_iRng1 ?_
  | with_reducible refine' r_iStr ?_
  | with_reducible refine' r_iEs ?_
  | with_reducible refine' r_iEl ?_
  | with_reducible refine' r_StQ ?_
  | with_reducible refine' r_EsQ ?_
  | ((with_reducible refine' r_RgQ ?hv ?_); (case hv => first | omega | assumption))
  | ((with_reducible refine' r_LsQ ?hs ?_); (case hs => walk_at "seq"))
  | ((with_reducible refine' r_ElQ ?hs ?_); (case hs => walk_at "seq"))
  | with_reducible refine' r_lc ?_
  | with_reducible refine' r_make ?_
  | with_reducible refine' r_dget ?_
  | with_reducible refine' r_din ?_
  | with_reducible refine' r_dnin ?_
  | with_reducible refine' r_dput ?_
  | with_reducible refine' r_dsetd ?_
  | with_reducible refine' r_fld ?_
  | with_reducible refine' r_fset ?_
  | ((with_reducible refine' r_dinS ?hs ?_); (case hs => walk_at "rdd"))
  | ((with_reducible refine' r_dgetS ?hs ?e ?_); (case hs => walk_at "rdd"); (case e => assumption))
  | ((with_reducible refine' r_ds0 ?hs ?_); (case hs => walk_at "obj"))
  | ((with_reducible refine' r_dputS ?w ?hi ?own ?hl ?hL ?_); (case w => assumption); (case hi => walk_at "hi"); (case own => walk_at "own"); (case hl => first | assumption | walk_at "sz"); (case hL => walk_at "set"); intro _ _)
  | ((with_reducible refine' r_dnew ?w ?_); (case w => assumption); intro _ _ _ _ _)
  | ((with_reducible refine' r_lenD ?hs ?_); (case hs => walk_at "obj"))
  | ((with_reducible refine' r_fldW ?hs ?c ?nf ?l ?_); (case hs => walk_at "obj"); (case c => assumption); (case nf => assumption); (case l => exact rfl))
  | ((with_reducible refine' r_lenS ?hs ?_); (case hs => walk_at "sz"))
  | ((with_reducible refine' r_slS ?hs ?_); (case hs => walk_at "sz"))
  | ((with_reducible refine' r_cat ?hs ?_); (case hs => walk_at "sz"))
  | ((with_reducible refine' r_ixS ?hs ?e ?_); (case hs => walk_at "sz"); (case e => assumption))
  | ((with_reducible refine' r_appW ?w ?hi ?own ?e ?hL ?_); (case w => assumption); (case hi => walk_at "hi"); (case own => walk_at "own"); (case e => walk_at "sz"); (case hL => walk_at "set"); intro _ _)
  | ((with_reducible refine' r_viewS ?hz ?_); (case hz => omega))
  | ((with_reducible refine' r_wordW ?w ?ov ?_); (case w => assumption); (case ov => assumption); intro _ _)
  | ((with_reducible refine' r_nextS ?w ?hi ?hc ?own ?ne ?n0 ?n1 ?hL ?_); (case w => assumption); (case hi => walk_at "hi"); (case hc => walk_at "mem"); (case own => walk_at "own"); (case ne => assumption); (case n0 => omega); (case n1 => omega); (case hL => intro _ _ _; walk_at "set"); intro _ _ _ _ _ _ _ _)
  | ((with_reducible refine' r_gT ?h ?e ?_); (case h => walk_at "obj"); (case e => exact rfl))
  | with_reducible refine' r_callO ?_
  | with_reducible refine' r_co0 ?_
  | ((with_reducible refine' r_co1 ?h ?_); (case h => walk_at "obj"))
  | with_reducible refine' r_iKeys ?_
  | ((with_reducible refine' r_KyQ ?h ?_); (case h => walk_at "obj"))
  | ((with_reducible refine' r_isTT ?h ?_); (case h => walk_at "obj"))
  | with_reducible refine' r_isII ?_
  | with_reducible refine' r_integer ?_
  | with_reducible refine' r_isIB ?_
  | ((with_reducible refine' r_isDD ?h ?_); (case h => walk_at "obj"))
  | ((with_reducible refine' r_isCC ?c ?h ?_); (case c => assumption); (case h => walk_at "obj"))
  | with_reducible refine' r_ss ?_
  | with_reducible refine' ifNT ?_
  | with_reducible refine' ifNF ?_
  | with_reducible refine' ifT ?_
  | with_reducible refine' ifF ?_)
local macro_rules | `(tactic| walk_at "rd") => `(tactic| repeat walk_at "rd1")
local macro_rules | `(tactic| walk_at "br") => `(tactic| first | with_reducible refine' if2 (fun _ => ?_) (fun _ => ?_) | with_reducible refine' ifn2 (fun _ => ?_) (fun _ => ?_) | with_reducible refine' ifb (fun _ => ?_) (fun _ => ?_) | with_reducible refine' ifnb (fun _ => ?_) (fun _ => ?_))
local macro_rules | `(tactic| walk_at "rdb") => `(tactic| repeat' (first | walk_at "rd1" | walk_at "br"))
local macro_rules | `(tactic| walk_at "bro") => `(tactic| first | with_reducible refine if2 (fun h => (by exfalso; omega)) (fun _ => ?_) | with_reducible refine if2 (fun _ => ?_) (fun h => (by exfalso; omega)) | with_reducible refine ifn2 (fun h => (by exfalso; omega)) (fun _ => ?_) | with_reducible refine ifn2 (fun _ => ?_) (fun h => (by exfalso; omega)) | with_reducible refine if2 (fun _ => ?_) (fun h => absurd rfl h) | with_reducible refine ifn2 (fun h => absurd rfl h) (fun _ => ?_) | with_reducible refine if2 (fun h => nomatch h) (fun _ => ?_) | with_reducible refine ifn2 (fun _ => ?_) (fun h => nomatch h))
local macro_rules | `(tactic| walk_at "rdo") => `(tactic| repeat (first | walk_at "rd1" | walk_at "bro"))
local macro_rules | `(tactic| walk_at "rdn1") => `(tactic| first
  | with_reducible refine' r_seq ?_
  | ((with_reducible refine' r_var ?hv ?_); (case hv => exact rfl))
  | with_reducible refine' r_c ?_
  | with_reducible refine' r_op ?_
  | with_reducible refine' r_I0 ?_
  | ((with_reducible refine' r_set ?hv ?_); (case hv => walk_at "set"))
  | with_reducible refine' r_asg ?_
  | with_reducible refine' r_cons ?_
  | with_reducible refine' r_nil ?_
  | with_reducible refine' r_cb ?_
  | with_reducible refine' r_call0 ?_
  | with_reducible refine' r_test ?_
  | with_reducible refine' r_B ?_
  | with_reducible refine' r_bl ?_
  | with_reducible refine' r_and ?_
  | with_reducible refine' r_or ?_
  | with_reducible refine' r_not ?_
  | with_reducible refine' r_andV ?_
  | with_reducible refine' r_orV ?_
  | with_reducible refine' r_notV ?_
  | with_reducible refine' r_ifE ?_
  | with_reducible refine' r_eqI ?_
  | with_reducible refine' r_neI ?_
  | with_reducible refine' r_eqS ?_
  | with_reducible refine' r_neS ?_
  | ((with_reducible refine' r_eq ?hv ?_); (case hv => exact rfl))
  | ((with_reducible refine' r_ne ?hv ?_); (case hv => exact rfl))
  | with_reducible refine' r_ret ?_
  | with_reducible refine' r_retN ?_
  | with_reducible refine' r_drop ?_
  | with_reducible refine' r_next ?_
  | with_reducible refine' r_cont ?_
  | with_reducible refine' r_brk ?_
  | with_reducible refine' r_asgS ?_
  | with_reducible refine' r_asgT ?_
  | with_reducible refine' r_gN ?_
  | with_reducible refine' r_gc ?_
  | with_reducible refine' r_gn ?_
  | with_reducible refine' r_tup ?_
  | with_reducible refine' r_lst ?_
  | with_reducible refine' r_sl ?_
  | with_reducible refine' r_nopart ?_
  | with_reducible refine' r_part ?_
  | with_reducible refine' r_partI ?_
  | with_reducible refine' r_un ?_
  | with_reducible refine' r_U ?_
  | with_reducible refine' r_int1 ?_
  | with_reducible refine' r_l1 ?_
  | with_reducible refine' r_l2 ?_
  | with_reducible refine' r_sign ?_
  | with_reducible refine' r_refl ?_
  | with_reducible refine' r_bm ?_
  | with_reducible refine' r_bm0 ?_
  | ((with_reducible refine' r_I ?hv ?_); (case hv => walk_at "cd"))
  | ((with_reducible refine' r_ixL ?hs ?he ?_); (case hs => walk_at "seq"); (case he => first | assumption | exact rfl))
  | ((with_reducible refine' r_ixT ?hs ?he ?_); (case hs => walk_at "obj"); (case he => first | assumption | exact rfl))
  | ((with_reducible refine' r_lenL ?hs ?_); (case hs => walk_at "seq"))
  | ((with_reducible refine' r_lenT ?hs ?_); (case hs => walk_at "obj"))
  | ((with_reducible refine' r_tyL ?hs ?_); (case hs => walk_at "seq"))
  | ((with_reducible refine' r_setW ?w ?hi ?own ?e ?hy ?hL ?_); (case w => assumption); (case hi => walk_at "hi"); (case own => walk_at "own"); (case e => first | assumption | exact rfl); (case hy => walk_at "set"); (case hL => walk_at "set"); intro _ _)
  | ((with_reducible refine' r_mkT ?w ?hs ?_); (case w => assumption); (case hs => walk_at "sz"); intro _ _ _ _ _)
  | ((with_reducible refine' r_mkL ?w ?hs ?_); (case w => assumption); (case hs => walk_at "sz"); intro _ _ _ _ _)
  | with_reducible refine' r_for ?_
  | with_reducible refine' r_iList ?_
  | with_reducible refine' r_iRng1 ?_
  | with_reducible refine' r_iStr ?_
  | with_reducible refine' r_iEs ?_
  | with_reducible refine' r_iEl ?_
  | with_reducible refine' r_StQ ?_
  | with_reducible refine' r_EsQ ?_
  | ((with_reducible refine' r_RgQ ?hv ?_); (case hv => first | omega | assumption))
  | ((with_reducible refine' r_LsQ ?hs ?_); (case hs => walk_at "seq"))
  | ((with_reducible refine' r_ElQ ?hs ?_); (case hs => walk_at "seq"))
  | with_reducible refine' r_lc ?_
  | with_reducible refine' r_make ?_
  | with_reducible refine' r_dget ?_
  | with_reducible refine' r_din ?_
  | with_reducible refine' r_dnin ?_
  | with_reducible refine' r_dput ?_
  | with_reducible refine' r_dsetd ?_
  | with_reducible refine' r_fld ?_
  | with_reducible refine' r_fset ?_
  | ((with_reducible refine' r_dinS ?hs ?_); (case hs => walk_at "rdd"))
  | ((with_reducible refine' r_dgetS ?hs ?e ?_); (case hs => walk_at "rdd"); (case e => assumption))
  | ((with_reducible refine' r_ds0 ?hs ?_); (case hs => walk_at "obj"))
  | ((with_reducible refine' r_dputS ?w ?hi ?own ?hl ?hL ?_); (case w => assumption); (case hi => walk_at "hi"); (case own => walk_at "own"); (case hl => first | assumption | walk_at "sz"); (case hL => walk_at "set"); intro _ _)
  | ((with_reducible refine' r_dnew ?w ?_); (case w => assumption); intro _ _ _ _ _)
  | ((with_reducible refine' r_lenD ?hs ?_); (case hs => walk_at "obj"))
  | ((with_reducible refine' r_fldW ?hs ?c ?nf ?l ?_); (case hs => walk_at "obj"); (case c => assumption); (case nf => assumption); (case l => exact rfl))
  | ((with_reducible refine' r_lenS ?hs ?_); (case hs => walk_at "sz"))
  | ((with_reducible refine' r_slS ?hs ?_); (case hs => walk_at "sz"))
  | ((with_reducible refine' r_cat ?hs ?_); (case hs => walk_at "sz"))
  | ((with_reducible refine' r_ixS ?hs ?e ?_); (case hs => walk_at "sz"); (case e => assumption))
  | ((with_reducible refine' r_appW ?w ?hi ?own ?e ?hL ?_); (case w => assumption); (case hi => walk_at "hi"); (case own => walk_at "own"); (case e => walk_at "sz"); (case hL => walk_at "set"); intro _ _)
  | ((with_reducible refine' r_viewS ?hz ?_); (case hz => omega))
  | ((with_reducible refine' r_wordW ?w ?ov ?_); (case w => assumption); (case ov => assumption); intro _ _)
  | ((with_reducible refine' r_nextS ?w ?hi ?hc ?own ?ne ?n0 ?n1 ?hL ?_); (case w => assumption); (case hi => walk_at "hi"); (case hc => walk_at "mem"); (case own => walk_at "own"); (case ne => assumption); (case n0 => omega); (case n1 => omega); (case hL => intro _ _ _; walk_at "set"); intro _ _ _ _ _ _ _ _)
  | ((with_reducible refine' r_gT ?h ?e ?_); (case h => walk_at "obj"); (case e => exact rfl))
  | with_reducible refine' r_callO ?_
  | with_reducible refine' r_co0 ?_
  | ((with_reducible refine' r_co1 ?h ?_); (case h => walk_at "obj"))
  | with_reducible refine' r_iKeys ?_
  | ((with_reducible refine' r_KyQ ?h ?_); (case h => walk_at "obj"))
  | ((with_reducible refine' r_isTT ?h ?_); (case h => walk_at "obj"))
  | with_reducible refine' r_isII ?_
  | with_reducible refine' r_integer ?_
  | with_reducible refine' r_isIB ?_
  | ((with_reducible refine' r_isDD ?h ?_); (case h => walk_at "obj"))
  | ((with_reducible refine' r_isCC ?c ?h ?_); (case c => assumption); (case h => walk_at "obj"))
  | with_reducible refine' r_ss ?_
  | with_reducible refine' ifNT ?_
  | with_reducible refine' ifNF ?_
  | with_reducible refine' ifT ?_
  | with_reducible refine' ifF ?_)
local macro_rules | `(tactic| walk_at "rdn") => `(tactic| repeat walk_at "rdn1")

section
variable {P : Program} {w : World} {K : PySem.W.Frag} {mg : Str → Option Value} {base : Heap} {ad : Ad}
abbrev s_law : Stmt := topS 31
theorem sc_law : FnScope ["script", "state", "letters", "images", "hidden", "size", "many", "longest", "known", "pairs", "k", "word", "at", "image", "where", "given", "bad", "more", "answer", "table"] ["script"] (defScope s_law) := ⟨rfl, rfl, rfl, by decide +kernel, rfl, by decide +kernel, by decide +kernel⟩
def spLaw (K : PySem.W.Frag) : Sp := fun vs H Q E => ∃ (a : Addr) (ns : List Int), vs = [.ref a] ∧ SqL K H a (ns.map V.int) ∧ ns.length ≤ 63 ∧ ∀ H', Q (.bl true) H'
/-- the slots of law -/
abbrev sl (a : Addr) (st ls im hi sz mn lg kd pl k wd at' img wh gv bd mo an tb : Option V) : L2.St := [some (.ref a), st, ls, im, hi, sz, mn, lg, kd, pl, k, wd, at', img, wh, gv, bd, mo, an, tb]
theorem w_law (T : Txt K mg ad) (c_law_start : CalX P w K mg base L2.CX0 1 "_law_start" (spStart K)) (c_law_next : CalX P w K mg base L2.CX0 1 "_law_next" spNext) (c_law_word : CalX P w K mg base L2.CX0 2 "_law_word" spLWord) (c_law_image : CalX P w K mg base L2.CX0 2 "_law_image" spLImage)
    (c_law_spoil : CalX P w K mg base L2.CX0 2 "_law_spoil" spSpoil) (c_law_first_bad : CalX P w K mg base L2.CX0 1 "_law_first_bad" spFirst) (c_law_refused : CalX P w K mg base L2.CX0 6 "_law_refused" (spRefused ad)) (c_fit_turner : CalX P w K mg base (L2.CX P w) 5 "fit_turner" (spFit ad))
    (c_law_table : CalX P w K mg base L2.CX0 2 "_law_table" spTable) (c_law_clash : CalX P w K mg base L2.CX0 3 "_law_clash" spLClash) (c_law_good_turner : CalX P w K mg base L2.CX0 5 "_law_good_turner" (spGood ad.tu))
    {f : Addr} {fd : FuncData} (F : Fun K "law" "law" s_law f fd) : FnOk P w K mg base L2.CX0 7 f fd ["script"] (spLaw K) := by
  refine F.ok sc_law (fun vs H Q E h => ?_) (fun cdv A outer s H vs Q E hr h => ?_)
  · obtain ⟨a, ns, rfl, _⟩ := h
    rfl
  · obtain ⟨a0, ns, rfl, hs, hn, k⟩ := h
    have hu := hu_of hr
    refine ⟨_, (pss_cons (ps_set (i := 1) sc_law.nd rfl (Or.inr rfl) (pe_cx c_law_start hr (by decide) rfl pass0 (pa_cons (pv 0) pa_nil)))
    (pss_cons (ps_set (i := 2) sc_law.nd rfl (Or.inr rfl) (pe_ix ix_list (pe_lst (pa_cons pe_str (pa_cons pe_str (pa_cons pe_str (pa_cons pe_str (pa_cons pe_str (pa_cons pe_str pa_nil))))))) (pe_cx c_law_next hr (by decide) rfl pass0 (pa_cons (pv 1) (pa_cons pe_int pa_nil))) (fun _ _ => rfl)))
    (pss_cons (ps_set (i := 3) sc_law.nd rfl (Or.inl rfl) (pe_ix ix_list (pe_lst (pa_cons pe_str (pa_cons pe_str (pa_cons pe_str (pa_cons pe_str (pa_cons pe_str (pa_cons pe_str pa_nil))))))) (pe_cx c_law_next hr (by decide) rfl pass0 (pa_cons (pv 1) (pa_cons pe_int pa_nil))) (fun _ _ => rfl)))
    (pss_cons (ps_set (i := 4) sc_law.nd rfl (Or.inl rfl) (pe_op op_add pe_int (pe_cx c_law_next hr (by decide) rfl pass0 (pa_cons (pv 1) (pa_cons pe_int pa_nil)))))
    (pss_cons (ps_set (i := 5) sc_law.nd rfl (Or.inl rfl) (pe_op op_add pe_int (pe_cx c_law_next hr (by decide) rfl pass0 (pa_cons (pv 1) (pa_cons pe_int pa_nil)))))
    (pss_cons (ps_if (pt_cmpR op_eq (pe_cx c_law_next hr (by decide) rfl pass0 (pa_cons (pv 1) (pa_cons pe_int pa_nil))) pe_int (nomark _)) (pss_one (ps_set (i := 5) sc_law.nd rfl (Or.inl rfl) (pe_op op_add pe_int (pe_cx c_law_next hr (by decide) rfl pass0 (pa_cons (pv 1) (pa_cons pe_int pa_nil)))))) pss_nil)
    (pss_cons (ps_set (i := 6) sc_law.nd rfl (Or.inl rfl) (pe_cx c_law_next hr (by decide) rfl pass0 (pa_cons (pv 1) (pa_cons pe_int pa_nil))))
    (pss_cons (ps_set (i := 7) sc_law.nd rfl (Or.inl rfl) pe_int)
    (pss_cons (ps_if (pt_cmpR op_eq (pe_cx c_law_next hr (by decide) rfl pass0 (pa_cons (pv 1) (pa_cons pe_int pa_nil))) pe_int (nomark _)) (pss_cons (ps_set (i := 6) sc_law.nd rfl (Or.inl rfl) (pe_op op_add pe_int (pe_cx c_law_next hr (by decide) rfl pass0 (pa_cons (pv 1) (pa_cons pe_int pa_nil)))))
      (pss_one (ps_set (i := 7) sc_law.nd rfl (Or.inl rfl) pe_int))) pss_nil)
    (pss_cons (ps_set (i := 8) sc_law.nd rfl (Or.inl rfl) pe_dnewK)
    (pss_cons (ps_set (i := 9) sc_law.nd rfl (Or.inl rfl) (pe_lst pa_nil))
    (pss_cons (ps_for PassesOwn.never rfl (pi_range1 (by rfl) T.n_range (pa_cons (pv 6) pa_nil)) (pg_name (i := 10) sc_law.nd rfl (Or.inl rfl))
      (pss_cons (ps_set (i := 11) sc_law.nd rfl (Or.inl rfl) (pe_cx c_law_word hr (by decide) rfl pass0 (pa_cons (pv 1) (pa_cons (pv 2) (pa_cons (pe_cx c_law_next hr (by decide) rfl pass0 (pa_cons (pv 1) (pa_cons (pe_op op_add (pv 7) pe_int) pa_nil))) pa_nil)))))
      (pss_one (ps_expr (pe_bm PySem.F.plainAttrs_list PySem.F.slot_list_append PySem.F.type_list_append mt_append (pv 9) (pa_cons (pe_tup (pa_cons (pv 11) (pa_cons (pe_cx c_law_image hr (by decide) rfl pass0 (pa_cons (pv 1) (pa_cons (pv 8) (pa_cons (pv 11) (pa_cons (pv 3) (pa_cons (pv 4) pa_nil)))))) pa_nil))) pa_nil))))))
    (pss_cons (ps_if (PW.pt (pw_and (pt_cmpR op_gt (pv 6) pe_int (nomark _)) (pw_and1 (pt_cmpR op_eq (pe_cx c_law_next hr (by decide) rfl pass0 (pa_cons (pv 1) (pa_cons pe_int pa_nil))) pe_int (nomark _))))) (pss_cons (ps_set (i := 12) sc_law.nd rfl (Or.inl rfl) (pe_cx c_law_next hr (by decide) rfl pass0 (pa_cons (pv 1) (pa_cons (pv 6) pa_nil))))
      (pss_cons (ps_set (i := 11) sc_law.nd rfl (Or.inl rfl) (pe_ix ix_tup (pe_ix ix_list (pv 9) (pv 12) (fun _ _ => rfl)) pe_int (fun _ _ => rfl)))
      (pss_cons (ps_set (i := 13) sc_law.nd rfl (Or.inl rfl) (pe_ix ix_tup (pe_ix ix_list (pv 9) (pv 12) (fun _ _ => rfl)) pe_int (fun _ _ => rfl)))
      (pss_cons (ps_set (i := 14) sc_law.nd rfl (Or.inl rfl) (pe_cx c_law_next hr (by decide) rfl pass0 (pa_cons (pv 1) (pa_cons (pe_op op_add (pe_callB call_len_str (by rfl) T.n_len (by decide +kernel) (pa_cons (pv 11) pa_nil)) pe_int) pa_nil))))
      (pss_one (ps_if (pt_cmpR op_lt (pv 14) (pe_callB call_len_str (by rfl) T.n_len (by decide +kernel) (pa_cons (pv 11) pa_nil)) (nomark _)) (pss_one (ps_asg (pe_tup (pa_cons (pv 11) (pa_cons (pe_op op_add_str (pe_op op_add_str (pe_slice sl_str (pv 13) po_none (po_some (pv 14))) (pe_ix ix_str (pv 3) (pe_cx c_law_next hr (by decide) rfl pass0 (pa_cons (pv 1) (pa_cons (pe_callB call_len_str (by rfl) T.n_len (by decide +kernel) (pa_cons (pv 3) pa_nil)) pa_nil))) (fun _ _ => rfl))) (pe_slice sl_str (pv 13) (po_some (pe_op op_add (pv 14) pe_int)) po_none)) pa_nil))) (pg_sub (pv 9) (pv 12) set_list))) pss_nil)))))) pss_nil)
    (pss_cons (ps_if (PW.pt (pw_and (pt_cmpR op_gt (pv 6) pe_int (nomark _)) (pw_and1 (pt_cmpR op_eq (pe_cx c_law_next hr (by decide) rfl pass0 (pa_cons (pv 1) (pa_cons pe_int pa_nil))) pe_int (nomark _))))) (pss_cons (ps_expr (pe_cx c_law_spoil hr (by decide) rfl pass0 (pa_cons (pv 1) (pa_cons (pv 9) (pa_cons (pv 2) (pa_cons (pv 3) pa_nil))))))
      (pss_one (ps_if (pt_cmpR op_eq (pe_cx c_law_next hr (by decide) rfl pass0 (pa_cons (pv 1) (pa_cons pe_int pa_nil))) pe_int (nomark _)) (pss_one (ps_expr (pe_cx c_law_spoil hr (by decide) rfl pass0 (pa_cons (pv 1) (pa_cons (pv 9) (pa_cons (pv 2) (pa_cons (pv 3) pa_nil))))))) pss_nil))) pss_nil)
    (pss_cons (ps_set (i := 15) sc_law.nd rfl (Or.inl rfl) (pe_callTy call_list_of (by rfl) T.n_list (by decide +kernel) (pa_cons (pv 9) pa_nil)))
    (pss_cons (ps_set (i := 16) sc_law.nd rfl (Or.inl rfl) (pe_cx c_law_first_bad hr (by decide) rfl pass0 (pa_cons (pv 9) (pa_cons (pv 2) (pa_cons (pv 3) pa_nil)))))
    (pss_cons (ps_if (pt_cmpR op_notN (pv 16) pe_non (nomark _)) (pss_one (ps_ret (pe_and (pe_cx c_law_refused hr (by decide) rfl pass0 (pa_cons (pv 2) (pa_cons (pv 3) (pa_cons (pv 5) (pa_cons (pv 15) (pa_cons (pv 16) pa_nil)))))) (pe_one (pe_cmpR (op_eqA hr.units) (pv 15) (pv 9) (nomark _)))))) pss_nil)
    (pss_cons (ps_setLc (i := 17) (own := [("k", 10)]) (g := gName 10) (tt := tYes) rfl sc_law.nd rfl rfl (sw_true rfl rfl rfl (by decide +kernel)) (pi_range1 (by rfl) T.n_range (pa_cons pe_int pa_nil)) (blkOk_by (own := [("k", 10)]) (N := ["script", "state", "letters", "images", "hidden", "size", "many", "longest", "known", "pairs", "k", "word", "at", "image", "where", "given", "bad", "more", "answer", "table"]) (sc := defScope s_law) (by decide +kernel)) (fun _ _ _ _ _ => pg_name (i := 10) sc_law.nd rfl (Or.inl rfl)) (fun _ _ _ _ _ => pts_nil) (fun _ _ _ _ _ => (pe_cx c_law_word hr (by decide) rfl pass0 (pa_cons (pv 1) (pa_cons (pv 2) (pa_cons (pv 10) pa_nil))))))
    (pss_cons (ps_set (i := 18) sc_law.nd rfl (Or.inl rfl) (pe_cx c_fit_turner hr (by decide) rfl passL (pa_cons (pv 2) (pa_cons (pv 3) (pa_cons (pv 5) (pa_cons (pv 15) pa_nil))))))
    (pss_cons (ps_if (PW.pt (pw_or (pt_cmpR (op_neA hr.units) (pv 15) (pv 9) (nomark _)) (pw_or (pt_not (pt_val (pe_callB call_isi (by rfl) T.n_isinstance (by decide +kernel) (pa_cons (pv 18) (pa_cons (pe_bltn (v := .ty "tuple") (by rfl) T.n_tuple (by decide +kernel) rfl) pa_nil))))) (pw_or1 (pt_cmpR op_lt (pe_callB call_len_seq (by rfl) T.n_len (by decide +kernel) (pa_cons (pv 18) pa_nil)) pe_int (nomark _)))))) (pss_one (ps_ret pe_bl)) pss_nil)
    (pss_cons (ps_set (i := 19) sc_law.nd rfl (Or.inl rfl) (pe_cx c_law_table hr (by decide) rfl pass0 (pa_cons (pv 9) (pa_cons (pv 5) pa_nil))))
    (pss_cons (ps_if (pt_cmpR op_isN (pv 19) pe_non (nomark _)) (pss_one (ps_ret (pe_and (pe_cmpR op_eq (pe_ix ix_tup (pv 18) pe_int (fun _ _ => rfl)) pe_str (nomark _)) (pe_one (pe_cx c_law_clash hr (by decide) rfl pass0 (pa_cons (pv 9) (pa_cons (pv 5) (pa_cons (pv 18) pa_nil)))))))) pss_nil)
    (pss_cons (ps_if (PW.pt (pw_or (pt_cmpR op_ne (pe_ix ix_tup (pv 18) pe_int (fun _ _ => rfl)) pe_str (nomark _)) (pw_or1 (pt_cmpR op_ne (pe_callB call_len_seq (by rfl) T.n_len (by decide +kernel) (pa_cons (pv 18) pa_nil)) pe_int (nomark _))))) (pss_one (ps_ret pe_bl)) pss_nil)
    (pss_one (ps_ret (pe_cx c_law_good_turner hr (by decide) rfl pass0 (pa_cons (pe_ix ix_tup (pv 18) pe_int (fun _ _ => rfl)) (pa_cons (pv 2) (pa_cons (pv 3) (pa_cons (pv 5) (pa_cons (pv 19) (pa_cons (pv 9) (pa_cons (pv 17) pa_nil))))))))))))))))))))))))))))))))), ?_⟩
    simp only [cxK,cxKX]
    show (_ : TS) (_ : Ends) [some _, none, none, none, none, none, none, none, none, none, none, none, none, none, none, none, none, none, none, none] _
    walk_at "rdn"
    refine ⟨a0, ns, rfl, hs, hn, fun st cl cs H1 nst ncl nsc f1 hst hcl ne => ?_⟩
    have w1 : Wd H1 [st] H1 [(st, .lst [.ref cl, .int 0, .int 0, .int 0]), (cl, .lst (cs.map V.int))] := two_entries [st] hst hcl ne
    clear f1 nst ncl hst hcl nsc
    walk_at "rdn"
    rename_i p H2 np fp w2 r a1 b1 c1 H3 r0 r1 w3
    obtain ⟨ls, els, gls⟩ := lets r0 r1
    walk_at "rdn"
    rename_i p2 H4 np2 fp2 w4 r2 a2 b2 c2 H5 r20 r21 w5
    obtain ⟨im, eim, gim⟩ := imgs r20 r21
    walk_at "rdn"
    rename_i hi a3 b3 c3 H6 hi0 hi1 w6 sz a4 b4 c4 H7 sz0 sz1 w7
    have w8 := w7.drop.drop.anew [st]
    clear w1 w2 w3 w4 w5 w6 w7 np fp np2 fp2 els eim hs hn r0 r1 r20 r21
    refine r_cut (fun σ' H' => ∃ (a b c sz : Int), Wd H' [st] H' [(st, .lst [.ref cl, .int a, .int b, .int c]), (cl, .lst (cs.map V.int))] ∧ σ' = sl a0 (some (.ref st)) (some (.str ls)) (some (.str im)) (some (.int (1 + hi))) (some (.int sz)) none none none none none none none none none none none none none none) (fun N kN => ?_) (fun σ' H' j => ?_)
    · walk_at "rdb"
      all_goals exact kN _ _ ⟨_, _, _, _, Wd.anew (by assumption) _, rfl⟩
    clear w8 sz0 sz1 H7
    obtain ⟨a5, b5, c5, sz, w8, rfl⟩ := j
    walk_at "rdn"
    rename_i mn a6 b6 c6 H8 mn0 mn1 w9
    refine r_cut (fun σ' H' => ∃ (a b c mn lg : Int), 0 ≤ mn ∧ mn ≤ 30 ∧ 0 ≤ lg ∧ lg ≤ 24 ∧ Wd H' [st] H' [(st, .lst [.ref cl, .int a, .int b, .int c]), (cl, .lst (cs.map V.int))] ∧ σ' = sl a0 (some (.ref st)) (some (.str ls)) (some (.str im)) (some (.int (1 + hi))) (some (.int sz)) (some (.int mn)) (some (.int lg)) none none none none none none none none none none none none) (fun N kN => ?_) (fun σ' H' j => ?_)
    · walk_at "rdb"
      all_goals exact kN _ _ ⟨_, _, _, _, _, by omega, by omega, by omega, by omega, Wd.anew (by assumption) _, rfl⟩
    clear w8 w9 mn0 mn1
    obtain ⟨a7, b7, c7, mn, lg, mn0, mn1, lg0, lg1, w9, rfl⟩ := j
    walk_at "rdn"
    rename_i kd H9 nkd fkd w10 pl H10 npl fpl w11
    have nd := w11.nd
    simp only [List.map_cons, List.map_nil, List.nodup_cons, List.mem_cons, List.not_mem_nil, or_false, not_or, not_false_eq_true, List.nodup_nil, and_true] at nd
    obtain ⟨⟨n1, n2, n3⟩, ⟨n4, n5⟩, n6⟩ := nd
    have up : ∀ {H0 H H1 : Hp} {ms ns : List Addr} {o1 o2 o3 o1' o2' : HO}, Wd H0 ms H [(pl, o1), (kd, o2), (st, o3), (cl, .lst (cs.map V.int))] → H1 pl = some o1' → H1 kd = some o2' → StAt H1 st cl cs → ∃ a b c : Int, Wd H1 ns H1 [(pl, o1'), (kd, o2'), (st, .lst [.ref cl, .int a, .int b, .int c]), (cl, .lst (cs.map V.int))] := by
      intro H0 H H1 ms ns o1 o2 o3 o1' o2' w h1 h2 h3
      obtain ⟨⟨a, b, c, h3⟩, h4, _⟩ := h3
      refine ⟨a, b, c, w.again rfl (fun p hp => ?_)⟩
      simp only [List.mem_cons, List.not_mem_nil, or_false] at hp
      rcases hp with rfl | rfl | rfl | rfl <;> assumption
    have emn : (mn.toNat : Int) = mn := Int.toNat_of_nonneg mn0
    refine f_rng (fun i σ' H' => ∃ (a b c : Int) (kvs : List (Key × V)) (ts : List Addr) (ps : List (Str × Str)) (kk wd : Option V), Wd H' [st, kd, pl] H' [(pl, .lst (ts.map V.ref)), (kd, .dK kvs), (st, .lst [.ref cl, .int a, .int b, .int c]), (cl, .lst (cs.map V.int))] ∧
      Tups H' ts ps ∧ ps.length = i ∧ PsB 24 ps ∧ DictOk kvs ∧ kvs.length ≤ 24 * i ∧ σ' = sl a0 (some (.ref st)) (some (.str ls)) (some (.str im)) (some (.int (1 + hi))) (some (.int sz)) (some (.int mn)) (some (.int lg)) (some (.ref kd)) (some (.ref pl)) kk wd none none none none none none none none)
      ⟨_, _, _, _, [], [], none, none, w11.anew _, ⟨rfl, fun i t p z => by cases z⟩, rfl, fun p z => (by cases z), DictOk.nil, Nat.le_refl _, rfl⟩ (fun i σ' H' hit p => ?_) (fun σ' H' p => ?_)
    · obtain ⟨a, b, c, kvs, ts, ps, kk, wd, w12, tu, pn, pb, dk, kl, rfl⟩ := p
      have hi2 : i < 30 := by omega
      have tl : (ts.map V.ref).length = i := by rw [List.length_map, tu.1, pn]
      walk_at "rd"
      rename_i r a' b' c' H2 r0 r1 w13
      refine ⟨st, cl, cs, ls, r, rfl, ⟨⟨_, _, _, w13.at (by walk_at "mem")⟩, w13.at (by walk_at "mem"), ne⟩, gls.one, by have := gls.four; omega, r0, by omega, fun z H3 zl zo f3 s3 => ?_⟩
      obtain ⟨a2, b2, c2, w14⟩ := up (ns := [st, kd, pl]) w13 (f3.keep _ _ (w13.at (by walk_at "mem")) (by simp [n2])) (f3.keep _ _ (w13.at (by walk_at "mem")) (by simp [n4])) s3
      have tu3 := (tu.frm w13.fr).frm f3
      walk_at "rd"
      refine ⟨st, cl, kd, cs, kvs, z, im, _, rfl, ⟨⟨_, _, _, w14.at (by walk_at "mem")⟩, w14.at (by walk_at "mem"), ne⟩, w14.at (by walk_at "mem"), dk, by omega, gim.one, by have := gim.four; omega, by omega, fun y kvs' H4 yl dk' kl' hk f4 s4 => ?_⟩
      obtain ⟨a3, b3, c3, w15⟩ := up (ns := [st, kd, pl]) w14 (f4.keep _ _ (w14.at (by walk_at "mem")) (by simp [n1, n2])) hk s4
      have tu4 := tu3.frm f4
      walk_at "rd"
      rename_i t H5 nt5 ft5 w16 H6 w17
      refine ⟨a3, b3, c3, kvs', ts ++ [t], ps ++ [(z, y)], _, _, ?_, ?_, by simp [pn], fun p hp => ?_, dk', by omega, rfl⟩
      · rw [List.map_append]
        exact w17.drop.anew _
      · exact (tu4.frm w17.fr).snoc (w17.at (by walk_at "mem"))
      · rcases List.mem_append.mp hp with hp | hp
        · exact pb p hp
        · have hz := List.mem_singleton.mp hp
          subst hz
          exact ⟨show z.length ≤ 24 by omega, show y.length ≤ 24 by omega⟩
    obtain ⟨a, b, c, kvs, ts, ps, kk, wd, w12, tu, pn, pb, _, _, rfl⟩ := p
    clear up w11 w10 w9
    have w13 : Wd H' [st, pl] H' [(pl, .lst (ts.map V.ref)), (st, .lst [.ref cl, .int a, .int b, .int c]), (cl, .lst (cs.map V.int))] := (w12.cut (by simp)).anew _
    clear w12
    have up : ∀ {H0 H H1 : Hp} {ms ns : List Addr} {o1 o3 o1' : HO}, Wd H0 ms H [(pl, o1), (st, o3), (cl, .lst (cs.map V.int))] → H1 pl = some o1' → StAt H1 st cl cs → ∃ a b c : Int, Wd H1 ns H1 [(pl, o1'), (st, .lst [.ref cl, .int a, .int b, .int c]), (cl, .lst (cs.map V.int))] := by
      intro H0 H H1 ms ns o1 o3 o1' w h1 h3
      obtain ⟨⟨a, b, c, h3⟩, h4, _⟩ := h3
      refine ⟨a, b, c, w.again rfl (fun p hp => ?_)⟩
      simp only [List.mem_cons, List.not_mem_nil, or_false] at hp
      rcases hp with rfl | rfl | rfl <;> assumption
    walk_at "rdn"
    refine r_cut (fun σ' H' => ∃ (a b c : Int) (ts : List Addr) (ps : List (Str × Str)) (kk wd at' img wh : Option V), Wd H' [st, pl] H' [(pl, .lst (ts.map V.ref)), (st, .lst [.ref cl, .int a, .int b, .int c]), (cl, .lst (cs.map V.int))] ∧
      Tups H' ts ps ∧ ps.length = mn.toNat ∧ PsB 25 ps ∧ σ' = sl a0 (some (.ref st)) (some (.str ls)) (some (.str im)) (some (.int (1 + hi))) (some (.int sz)) (some (.int mn)) (some (.int lg)) (some (.ref kd)) (some (.ref pl)) kk wd at' img wh none none none none none) (fun N kN => ?_) (fun σ' H' j => ?_)
    · have pb25 : PsB 25 ps := fun p hp => by
        have := pb p hp
        omega
      walk_at "rdb"
      all_goals try exact kN _ _ ⟨_, _, _, _, _, _, _, _, _, _, Wd.anew (by assumption) _, tu.frm (Wd.fr (by assumption)), pn, pb25, rfl⟩
      rename_i gt r a1 b1 c1 H2 q0 q1 w14 e0 at0 a2 b2 c2 H3 at00 at01 w15
      have tl : (ts.map V.ref).length = mn.toNat := by rw [List.length_map, tu.1, pn]
      obtain ⟨x, e1, e2, e3⟩ := at_in (xs := ts.map V.ref) at00 (by omega)
      obtain ⟨t, p, rfl, ht, hp, htp⟩ := tu.get e2
      have hpm : p ∈ ps := List.mem_of_getElem? hp
      have s1 := (pb p hpm).1
      have s2 := (pb p hpm).2
      have im1 := gim.one
      have im4 := gim.four
      walk_at "rd"
      rename_i wh a3 b3 c3 H4 wh0 wh1 w16
      refine if2 (fun hw => ?_) (fun _ => kN _ _ ⟨_, _, _, _, _, _, _, _, _, _, Wd.anew (by assumption) _, tu.frm (Wd.fr (by assumption)), pn, pb25, rfl⟩)
      walk_at "rd"
      rename_i sg a4 b4 c4 H5 sg0 sg1 w17
      obtain ⟨d, hd, _, hm⟩ := atI_str sg0 sg1
      have one : (⟨#[d]⟩ : Str).length = 1 := rfl
      have lc := cut_a p.2 wh0
      have ld := cut_b p.2 (show 0 ≤ wh + 1 by omega)
      walk_at "rd"
      rename_i t' H6 nt' ft' w18 H7 w19
      refine kN _ _ ⟨a4, b4, c4, ts.set at0.toNat t', ps.set at0.toNat (p.1, cutS p.2 none (some wh) ++ ⟨#[d]⟩ ++ cutS p.2 (some (wh + 1)) none), _, _, _, _, _, ?_, ⟨by simp [tu.1], fun i u q hu hq => ?_⟩, by rw [List.length_set]; exact pn, fun q hq => ?_, rfl⟩
      · rw [List.map_set]
        exact w19.drop.anew _
      · by_cases e : at0.toNat = i
        · subst e
          rw [List.getElem?_set_self (List.getElem?_eq_some_iff.mp ht).1] at hu
          rw [List.getElem?_set_self (List.getElem?_eq_some_iff.mp hp).1] at hq
          cases hu
          cases hq
          exact w19.at (by walk_at "mem")
        · rw [List.getElem?_set_ne e] at hu hq
          exact w19.tup (tu.2 i u q hu hq)
      · rcases List.mem_or_eq_of_mem_set hq with hq | rfl
        · exact pb25 q hq
        · refine ⟨show p.1.length ≤ 25 by omega, ?_⟩
          show (_ : Str).length ≤ 25
          simp only [PySem.Str.length_append]
          omega
    clear w13 tu pn pb
    obtain ⟨a1, b1, c1, ts, ps, kk, wd, at', img, wh, w13, tu, pn, pb, rfl⟩ := j
    walk_at "rdn"
    refine r_cut (fun σ' H' => ∃ (a b c : Int) (ts : List Addr) (ps : List (Str × Str)) (kk wd at' img wh : Option V), Wd H' [st, pl] H' [(pl, .lst (ts.map V.ref)), (st, .lst [.ref cl, .int a, .int b, .int c]), (cl, .lst (cs.map V.int))] ∧
      Tups H' ts ps ∧ ps.length = mn.toNat ∧ PsB 27 ps ∧ σ' = sl a0 (some (.ref st)) (some (.str ls)) (some (.str im)) (some (.int (1 + hi))) (some (.int sz)) (some (.int mn)) (some (.int lg)) (some (.ref kd)) (some (.ref pl)) kk wd at' img wh none none none none none) (fun N kN => ?_) (fun σ' H' j => ?_)
    · have pb27 : PsB 27 ps := fun p hp => by
        have := pb p hp
        omega
      have im1 := gim.one
      have im4 := gim.four
      walk_at "rdb"
      all_goals try exact kN _ _ ⟨_, _, _, _, _, _, _, _, _, _, Wd.anew (by assumption) _, tu.frm (Wd.fr (by assumption)), pn, pb27, rfl⟩
      rename_i gt r a2 b2 c2 H2 q0 q1 w14 e0
      refine ⟨st, cl, pl, cs, ts, ps, ls, im, 25, rfl, ⟨⟨_, _, _, w14.at (by walk_at "mem")⟩, w14.at (by walk_at "mem"), ne⟩, w14.at (by walk_at "mem"), tu.frm w14.fr, by omega, by omega, pb, by omega, im1, by omega, fun i ts' ps' H3 pn' pb' hp' tu' f3 s3 => ?_⟩
      obtain ⟨a3, b3, c3, w15⟩ := up (ns := [st, pl]) w14 hp' s3
      have pb27' : PsB 27 ps' := fun p hp => by
        have := pb' p hp
        omega
      walk_at "rdb"
      all_goals try exact kN _ _ ⟨_, _, _, _, _, _, _, _, _, _, Wd.anew (by assumption) _, tu'.frm (Wd.fr (by assumption)), by omega, pb27', rfl⟩
      rename_i r2 a4 b4 c4 H4 r20 r21 w16 e1
      refine ⟨st, cl, pl, cs, ts', ps', ls, im, 26, rfl, ⟨⟨_, _, _, w16.at (by walk_at "mem")⟩, w16.at (by walk_at "mem"), ne⟩, w16.at (by walk_at "mem"), tu'.frm w16.fr, by omega, by omega, pb', by omega, im1, by omega, fun i ts2 ps2 H5 pn2 pb2 hp2 tu2 f5 s5 => ?_⟩
      obtain ⟨a5, b5, c5, w17⟩ := up (ns := [st, pl]) w16 hp2 s5
      walk_at "rd"
      exact kN _ _ ⟨_, _, _, _, _, _, _, _, _, _, w17, tu2, by omega, pb2, rfl⟩
    clear w13 tu pn pb
    obtain ⟨a1, b1, c1, ts, ps, kk, wd, at', img, wh, w13, tu, pn, pb, rfl⟩ := j
    have sm : Small ps := ⟨by omega, fun p hp => by
      have := pb p hp
      omega⟩
    have tl : (ts.map V.ref).length = mn.toNat := by rw [List.length_map, tu.1, pn]
    walk_at "rd"
    intro gv ngv
    have w14 := w13.new (o := .lst (ts.map V.ref)) ngv
    have ndg := w14.nd
    simp only [List.map_cons, List.map_nil, List.nodup_cons, List.mem_cons, List.not_mem_nil, or_false, not_or, not_false_eq_true, List.nodup_nil, and_true] at ndg
    obtain ⟨⟨g1, g2, g3⟩, _⟩ := ndg
    have tu14 := tu.frm w14.fr
    walk_at "rdn"
    refine ⟨pl, ts, ps, ls, im, rfl, w14.at (by walk_at "mem"), tu14, sm, fun fine H2 f2 => ?_, fun b fb r H2 f2 nr hr2 => ?_⟩
    · have tu2 := tu14.frm f2
      have w15 := (w14.call0 f2).anew [st]
      walk_at "rd"
      refine ifn2 (fun hn => absurd rfl hn) (fun _ => ?_)
      walk_at "rd"
      intro D nD
      dsimp only [List.map]
      refine lc_range (fun i H' => ∃ (a b c : Int) (zs : List Str), Wd H2 [st] H' [(D, .lst (zs.map V.str)), (gv, .lst (ts.map V.ref)), (pl, .lst (ts.map V.ref)), (st, .lst [.ref cl, .int a, .int b, .int c]), (cl, .lst (cs.map V.int))] ∧ zs.length = i ∧ ∀ z ∈ zs, Over ls z ∧ z.length ≤ 1000)
        ⟨_, _, _, [], w15.new nD, rfl, fun z hz => by cases hz⟩ (fun i H' hi5 p => ?_) (fun H' p => ?_)
      · obtain ⟨a, b, c, zs, w16, zsl, zo⟩ := p
        dsimp only [wipe, List.set]
        refine r_gN (r_set rfl ⟨rfl, ?_⟩)
        unfold tYes
        refine iteT ?_
        dsimp only [List.set]
        walk_at "rd"
        refine ⟨st, cl, cs, ls, 0 + (i : Int), rfl, ⟨⟨_, _, _, w16.at (by walk_at "mem")⟩, w16.at (by walk_at "mem"), ne⟩, gls.one, by have := gls.four; omega, by omega, by omega, fun z H3 zl zo3 f3 s3 => ?_⟩
        obtain ⟨⟨a2, b2, c2, s3⟩, _, _⟩ := s3
        have w17 := w16.call1 (i := 3) rfl (.inl (by simp)) f3 s3 (fun _ z => by cases z)
        dsimp only [List.set] at w17
        have w18 := w17.put (i := 0) (o' := .lst (zs.map V.str ++ [.str z])) rfl (.inr nD) (fun _ z => by cases z)
        dsimp only [List.set] at w18
        refine ⟨_, w17.at (by walk_at "mem"), ?_, a2, b2, c2, zs ++ [z], ?_, by simp [zsl], fun q hq => ?_⟩
        · rw [List.length_map, zsl]
          exact sz_lt (by omega)
        · rw [List.map_append]
          exact w18
        · rcases List.mem_append.mp hq with hq | hq
          · exact zo q hq
          · rw [List.mem_singleton.mp hq]
            exact ⟨zo3, by omega⟩
      · obtain ⟨a, b, c, zs, w16, zl, zo⟩ := p
        have w17 := w16.cut (L' := [(D, .lst (zs.map V.str)), (gv, .lst (ts.map V.ref)), (pl, .lst (ts.map V.ref))]) (by simp)
        have tu5 := tu2.frm w16.fr
        clear w16 w15 w14 w13 zl
        walk_at "rd"
        have ev : Even ps := fun p hp => by
          obtain ⟨j, hj⟩ := List.mem_iff_getElem?.mp hp
          exact (fine j p hj).2.2
        refine ⟨gv, ts, ps, ls, im, sz, rfl, gls, gim, w17.at (by walk_at "mem"), tu5, sm, fun _ nc r tp dx d H3 f3 nr hr3 htp hd => ?_, fun _ k1 a1 k2 a2 cl r e1 e2 H3 f3 nr hr3 he1 he2 => ?_, fun b fb => absurd fine fb.not⟩
        · have w18 := w17.call0 f3
          have tu6 := tu5.frm f3
          walk_at "rd"
          refine r_eqA (sqL (w18.at (by walk_at "mem"))) (sqL (w18.at (by walk_at "mem"))) ?_
          walk_at "rd"
          refine if2 (fun hn => absurd hn (by simp)) (fun _ => ?_)
          walk_at "rd"
          refine ⟨pl, ts, ps, sz, rfl, w18.at (by walk_at "mem"), tu6, sm, ev, fun _ seen d2 H4 f4 nd2 hd2 => ?_, fun nnc => absurd nc nnc⟩
          have w19 := w18.call0 f4
          have hr4 := f4.tup _ _ hr3
          have htp4 := f4.keep _ _ htp (by simp)
          have hd4 := f4.keep _ _ hd (by simp)
          have tu7 := tu6.frm f4
          walk_at "rd"
          refine if2 (fun hn => nomatch hn) (fun _ => ?_)
          walk_at "rd"
          refine ifn2 (fun hn => absurd rfl hn) (fun _ => ?_)
          walk_at "rd"
          refine ifn2 (fun hn => absurd rfl hn) (fun _ => ?_)
          walk_at "rd"
          refine ⟨tp, dx, d, d2, pl, D, ls, im, sz, tabK ps sz, ts, ps, zs, rfl, htp4, hd4, hd2, ne_of_none hd nd2, tabI_ok _, ?_, tabI_keys _, w19.at (by walk_at "mem"), tu7, sm, fun p hp => ?_, fun p hp => ?_, w19.at (by walk_at "mem"), zo, fun H5 _ => k H5⟩
          · have := tabI_len (n := sz) sm ps.length
            have := sm.1
            show (tabI ps sz ps.length).length ≤ 100000
            omega
          · obtain ⟨j, hj⟩ := List.mem_iff_getElem?.mp hp
            exact (fine j p hj).1
          · exact imgK_own seen hp (ev p hp)
        · have w18 := w17.call0 f3
          have tu6 := tu5.frm f3
          walk_at "rd"
          refine r_eqA (sqL (w18.at (by walk_at "mem"))) (sqL (w18.at (by walk_at "mem"))) ?_
          walk_at "rd"
          refine if2 (fun hn => absurd hn (by simp)) (fun _ => ?_)
          walk_at "rd"
          refine ⟨pl, ts, ps, sz, rfl, w18.at (by walk_at "mem"), tu6, sm, ev, fun nc => absurd cl (nc _ _ _ _), fun _ H4 f4 => ?_⟩
          have w19 := w18.call0 f4
          have hr4 := f4.tup _ _ hr3
          have he14 := f4.tup _ _ he1
          have he24 := f4.tup _ _ he2
          have tu7 := tu6.frm f4
          walk_at "rd"
          refine if2 (fun _ => ?_) (fun hn => absurd rfl hn)
          walk_at "rd"
          refine if2 (fun _ => ?_) (fun hn => absurd rfl hn)
          walk_at "rd"
          exact ⟨pl, r, e1, e2, ts, ps, sz, k1, a1, k2, a2, rfl, w19.at (by walk_at "mem"), tu7, sm, hr4, he14, he24, cl, k _⟩
    · have tu2 := tu14.frm f2
      have w15 := w14.call0 f2
      walk_at "rd"
      refine ifn2 (fun _ => ?_) (fun hn => nomatch hn)
      walk_at "rd"
      refine ⟨gv, r, ts, ps, ls, im, sz, b, rfl, gls, gim, w15.at (by walk_at "mem"), tu2, sm, fb, hr2, fun H3 f3 => ?_⟩
      have w16 := w15.call0 f3
      walk_at "rd"
      exact r_eqA (sqL (w16.at (by walk_at "mem"))) (sqL (w16.at (by walk_at "mem"))) (k _)
end
end TZ

namespace TZ
open PySem L2
theorem kit_self {K : PySem.W.Frag} {C : Addr} : PySem.W.kitOne K (.ref C) (.ref C) = some true := by
  unfold PySem.W.kitOne
  rw [if_pos (beq_self_eq_true _)]
theorem kit_ref {K : PySem.W.Frag} {C D : Addr} (ne : (C == D) = false) (hd : PySem.W.hasDictIn K D = true) (ty : PySem.W.typeIn K (.ref D) = some (.type "type")) (h : PySem.W.subIn K (.ref C) (.ref D) = some false) : PySem.W.kitOne K (.ref C) (.ref D) = some false := by
  obtain ⟨cd, hc, _⟩ := PySem.W.any_some hd
  have e2 : ((PySem.W.clsIn K D).isSome && PySem.W.typeIn K (.ref D) == some (.type "type")) = true := by rw [hc, ty] <;> rfl
  unfold PySem.W.kitOne
  rw [if_neg (fun e => by
    have e' := beq_iff_eq.mp e
    cases e'
    simp at ne)]
  show (if ((PySem.W.clsIn K D).isSome && PySem.W.typeIn K (.ref D) == some (.type "type")) = true then PySem.W.subIn K (.ref C) (.ref D) else none) = some false
  rw [if_pos e2]
  exact h
theorem all_mk {l : PySem.W.OpenLaw} {w : World} {K : PySem.W.Frag} {h : Heap} {mg : Str → Option Value} {fa cl cw ct tu : Addr} (X : K.In h) (G : h.Ns mainGlobals mg) (hfa : mg "law" = some (.ref fa))
    {t_SMALL : Tok}
    {t_MOST_KINDS_OF_LETTERS : Tok}
    {nmcw qcw : Str} {Ncw : Addr} {bscw bmcw subcw : List Value} {sncw : List Str} {abcw : Bool} {colcw : Option Bool} {ddcw : Option Addr} {m0cw m1cw m2cw m3cw m5cw : Option Value}
    {odcw ancw cldcw dcdcw : Option Addr} {slcw ccscw dcscw : Array (Option Value)} {occw kVcw dccw pmcw ctcw cclcw dclcw : Value} {fcw cccw cdacw : Addr} {vscw : Array Value} {filecw : Str} {tfcw : Tok}
    {nmct qct : Str} {Nct : Addr} {bsct bmct subct : List Value} {snct : List Str} {abct : Bool} {colct : Option Bool} {ddct : Option Addr} {m0ct m1ct m2ct m3ct m5ct : Option Value}
    {odct anct cldct dcdct : Option Addr} {slct ccsct dcsct : Array (Option Value)} {occt kVct dcct pmct ctct cclct dclct : Value} {fct ccct cdact : Addr} {vsct : Array Value} {filect : Str} {tfct : Tok}
    {odtuinit antuinit : Option Addr} {sltuinit : Array (Option Value)} {octuinit kVtuinit dctuinit pmtuinit cdtuinit cttuinit : Value} {ftuinit : Addr}
    {odtucall antucall : Option Addr} {sltucall : Array (Option Value)} {octucall kVtucall dctucall pmtucall cdtucall cttucall : Value} {ftucall : Addr}
    {od_law_next an_law_next : Option Addr} {sl_law_next : Array (Option Value)} {oc_law_next kV_law_next dc_law_next pm_law_next cd_law_next ct_law_next : Value} {f_law_next : Addr}
    {od_law_start an_law_start : Option Addr} {sl_law_start : Array (Option Value)} {oc_law_start kV_law_start dc_law_start pm_law_start cd_law_start ct_law_start : Value} {f_law_start : Addr}
    {odcheck_letters ancheck_letters : Option Addr} {slcheck_letters : Array (Option Value)} {occheck_letters kVcheck_letters dccheck_letters pmcheck_letters cdcheck_letters ctcheck_letters : Value} {fcheck_letters : Addr}
    {odcheck_word ancheck_word : Option Addr} {slcheck_word : Array (Option Value)} {occheck_word kVcheck_word dccheck_word pmcheck_word cdcheck_word ctcheck_word : Value} {fcheck_word : Addr}
    {odview_at anview_at : Option Addr} {slview_at : Array (Option Value)} {ocview_at kVview_at dcview_at pmview_at cdview_at ctview_at : Value} {fview_at : Addr}
    {od_law_view an_law_view : Option Addr} {sl_law_view : Array (Option Value)} {oc_law_view kV_law_view dc_law_view pm_law_view cd_law_view ct_law_view : Value} {f_law_view : Addr}
    {od_law_word an_law_word : Option Addr} {sl_law_word : Array (Option Value)} {oc_law_word kV_law_word dc_law_word pm_law_word cd_law_word ct_law_word : Value} {f_law_word : Addr}
    {od_law_image an_law_image : Option Addr} {sl_law_image : Array (Option Value)} {oc_law_image kV_law_image dc_law_image pm_law_image cd_law_image ct_law_image : Value} {f_law_image : Addr}
    {od_law_due_image an_law_due_image : Option Addr} {sl_law_due_image : Array (Option Value)} {oc_law_due_image kV_law_due_image dc_law_due_image pm_law_due_image cd_law_due_image ct_law_due_image : Value} {f_law_due_image : Addr}
    {odcheck_pairs ancheck_pairs : Option Addr} {slcheck_pairs : Array (Option Value)} {occheck_pairs kVcheck_pairs dccheck_pairs pmcheck_pairs cdcheck_pairs ctcheck_pairs : Value} {fcheck_pairs : Addr}
    {odfirst_clash anfirst_clash : Option Addr} {slfirst_clash : Array (Option Value)} {ocfirst_clash kVfirst_clash dcfirst_clash pmfirst_clash cdfirst_clash ctfirst_clash : Value} {ffirst_clash : Addr}
    {odfit_turner anfit_turner : Option Addr} {slfit_turner : Array (Option Value)} {ocfit_turner kVfit_turner dcfit_turner pmfit_turner cdfit_turner ctfit_turner : Value} {ffit_turner : Addr}
    {od_law_table an_law_table : Option Addr} {sl_law_table : Array (Option Value)} {oc_law_table kV_law_table dc_law_table pm_law_table cd_law_table ct_law_table : Value} {f_law_table : Addr}
    {od_law_integer an_law_integer : Option Addr} {sl_law_integer : Array (Option Value)} {oc_law_integer kV_law_integer dc_law_integer pm_law_integer cd_law_integer ct_law_integer : Value} {f_law_integer : Addr}
    {od_law_place an_law_place : Option Addr} {sl_law_place : Array (Option Value)} {oc_law_place kV_law_place dc_law_place pm_law_place cd_law_place ct_law_place : Value} {f_law_place : Addr}
    {od_law_clash an_law_clash : Option Addr} {sl_law_clash : Array (Option Value)} {oc_law_clash kV_law_clash dc_law_clash pm_law_clash cd_law_clash ct_law_clash : Value} {f_law_clash : Addr}
    {od_law_good_turner an_law_good_turner : Option Addr} {sl_law_good_turner : Array (Option Value)} {oc_law_good_turner kV_law_good_turner dc_law_good_turner pm_law_good_turner cd_law_good_turner ct_law_good_turner : Value} {f_law_good_turner : Addr}
    {od_law_spoil an_law_spoil : Option Addr} {sl_law_spoil : Array (Option Value)} {oc_law_spoil kV_law_spoil dc_law_spoil pm_law_spoil cd_law_spoil ct_law_spoil : Value} {f_law_spoil : Addr}
    {od_law_first_bad an_law_first_bad : Option Addr} {sl_law_first_bad : Array (Option Value)} {oc_law_first_bad kV_law_first_bad dc_law_first_bad pm_law_first_bad cd_law_first_bad ct_law_first_bad : Value} {f_law_first_bad : Addr}
    {od_law_refused an_law_refused : Option Addr} {sl_law_refused : Array (Option Value)} {oc_law_refused kV_law_refused dc_law_refused pm_law_refused cd_law_refused ct_law_refused : Value} {f_law_refused : Addr}
    {odlaw anlaw : Option Addr} {sllaw : Array (Option Value)} {oclaw kVlaw dclaw pmlaw cdlaw ctlaw : Value} {flaw : Addr}
    (z_len : PySem.W.nsIn K mainGlobals "len" = some none)
    (z_int : PySem.W.nsIn K mainGlobals "int" = some none)
    (z_abs : PySem.W.nsIn K mainGlobals "abs" = some none)
    (z_max : PySem.W.nsIn K mainGlobals "max" = some none)
    (z_range : PySem.W.nsIn K mainGlobals "range" = some none)
    (z_enumerate : PySem.W.nsIn K mainGlobals "enumerate" = some none)
    (z_isinstance : PySem.W.nsIn K mainGlobals "isinstance" = some none)
    (z_tuple : PySem.W.nsIn K mainGlobals "tuple" = some none)
    (z_dict : PySem.W.nsIn K mainGlobals "dict" = some none)
    (z_list : PySem.W.nsIn K mainGlobals "list" = some none)
    (z_bool : PySem.W.nsIn K mainGlobals "bool" = some none)
    (g_SMALL : PySem.W.nsIn K mainGlobals "SMALL" = some (some (.str "abcdefghijklmnopqrstuvwxyz" t_SMALL)))
    (g_MOST_KINDS_OF_LETTERS : PySem.W.nsIn K mainGlobals "MOST_KINDS_OF_LETTERS" = some (some (.int 4 t_MOST_KINDS_OF_LETTERS)))
    (cg : PySem.W.specialIn K (.builtin "object.__class__") "__get__" = some (some (.builtin "getset_descriptor.__get__")))
    (tk : PySem.W.takesIn K (.builtin "object.__class__") = some true)
    (tp : PySem.W.nsIn K cStatics "thirdparty.any" = some none)
    (z_super : PySem.W.nsIn K mainGlobals "super" = some none)
    (topS : (l.prog.main.scope.names.lookup ("super" : Str)).isSome = false)
    (gL : PySem.W.nsIn K mainGlobals "LanguageError" = some (some (.ref cl)))
    (exB : PySem.W.subIn K (.ref cl) (.type "BaseException") = some true)
    (tyB : PySem.W.typeIn K (.ref cl) = some (.type "type"))
    (hdB : PySem.W.hasDictIn K cl = true)
    (gcw : PySem.W.nsIn K mainGlobals "BadWord" = some (some (.ref cw)))
    (xcw : K.lookup cw = some (excClassObj nmcw qcw cw Ncw bscw bmcw true sncw subcw abcw colcw ddcw m0cw m1cw m2cw m3cw m5cw "ValueError.__new__"))
    (rcw : PySem.HandSPX.refsVE bmcw = true)
    (sacw : PySem.W.findIn K (.ref cw) "__setattr__" = some (some (.builtin "object.__setattr__")))
    (gacw : PySem.W.findIn K (.ref cw) "__getattribute__" = some (some (.builtin "BaseException.__getattribute__")))
    (ggcw : PySem.W.findIn K (.ref cw) "__getattr__" = some none)
    (excw : PySem.W.subIn K (.ref cw) (.type "BaseException") = some true)
    (tycw : PySem.W.typeIn K (.ref cw) = some (.type "type"))
    (kecw : PySem.W.keepIn K (.ref cw) = true)
    (hdcw : PySem.W.hasDictIn K cw = true)
    (cacw : PySem.W.findIn K (.ref cw) "__class__" = some (some (.builtin "object.__class__")))
    (mocw : PySem.W.mroIn K cw (.type "object") = some true)
    (icw : PySem.W.findIn K (.ref cw) "__init__" = some (some (.ref fcw)))
    (ticw : PySem.W.typeIn K (.ref fcw) = some (.type "function"))
    (lcw : K.lookup fcw = some ⟨occw, odcw, .func (PySem.W.ksFn "__init__" "BadWord.__init__" (defArgs s_bw) (defBody s_bw) (defScope s_bw) .none kVcw dccw pmcw ancw (.ref cdacw) ctcw cccw), slcw⟩)
    (ccw : PySem.W.codeIn K (.ref cdacw) "BadWord.__init__" = true)
    (cecw : K.lookup cccw = some ⟨cclcw, cldcw, .cell (some (.ref cw)), ccscw⟩)
    (cocw : K.lookup cdacw = some ⟨dclcw, dcdcw, .fields vscw, dcscw⟩)
    (vcw : vscw[2]? = some (.str filecw tfcw))
    (ficw : ((l.prog.main.file : Str) == filecw) = true)
    (sucw : PySem.W.ks_superIn K cw cw "__init__" = some (some (.builtin "ValueError.__init__")))
    (sbcw : PySem.W.mroIn K cw (.ref cw) = some true)
    (svcw : PySem.W.subIn K (.ref cw) (.type "ValueError") = some true)
    (ncw_word : PySem.W.findIn K (.ref cw) "word" = some none)
    (ncw_place : PySem.W.findIn K (.ref cw) "place" = some none)
    (gct : PySem.W.nsIn K mainGlobals "BadText" = some (some (.ref ct)))
    (xct : K.lookup ct = some (excClassObj nmct qct ct Nct bsct bmct true snct subct abct colct ddct m0ct m1ct m2ct m3ct m5ct "ValueError.__new__"))
    (rct : PySem.HandSPX.refsVE bmct = true)
    (sact : PySem.W.findIn K (.ref ct) "__setattr__" = some (some (.builtin "object.__setattr__")))
    (gact : PySem.W.findIn K (.ref ct) "__getattribute__" = some (some (.builtin "BaseException.__getattribute__")))
    (ggct : PySem.W.findIn K (.ref ct) "__getattr__" = some none)
    (exct : PySem.W.subIn K (.ref ct) (.type "BaseException") = some true)
    (tyct : PySem.W.typeIn K (.ref ct) = some (.type "type"))
    (kect : PySem.W.keepIn K (.ref ct) = true)
    (hdct : PySem.W.hasDictIn K ct = true)
    (cact : PySem.W.findIn K (.ref ct) "__class__" = some (some (.builtin "object.__class__")))
    (moct : PySem.W.mroIn K ct (.type "object") = some true)
    (ict : PySem.W.findIn K (.ref ct) "__init__" = some (some (.ref fct)))
    (tict : PySem.W.typeIn K (.ref fct) = some (.type "function"))
    (lct : K.lookup fct = some ⟨occt, odct, .func (PySem.W.ksFn "__init__" "BadText.__init__" (defArgs s_bt) (defBody s_bt) (defScope s_bt) .none kVct dcct pmct anct (.ref cdact) ctct ccct), slct⟩)
    (cct : PySem.W.codeIn K (.ref cdact) "BadText.__init__" = true)
    (cect : K.lookup ccct = some ⟨cclct, cldct, .cell (some (.ref ct)), ccsct⟩)
    (coct : K.lookup cdact = some ⟨dclct, dcdct, .fields vsct, dcsct⟩)
    (vct : vsct[2]? = some (.str filect tfct))
    (fict : ((l.prog.main.file : Str) == filect) = true)
    (suct : PySem.W.ks_superIn K ct ct "__init__" = some (some (.builtin "ValueError.__init__")))
    (sbct : PySem.W.mroIn K ct (.ref ct) = some true)
    (svct : PySem.W.subIn K (.ref ct) (.type "ValueError") = some true)
    (nct_line : PySem.W.findIn K (.ref ct) "line" = some none)
    (sub_cw_B : PySem.W.subIn K (.ref cw) (.ref cl) = some true)
    (sub_ct_B : PySem.W.subIn K (.ref ct) (.ref cl) = some true)
    (sub_cw_ct : PySem.W.subIn K (.ref cw) (.ref ct) = some false)
    (ne_cw_ct : (cw == ct) = false)
    (sub_ct_cw : PySem.W.subIn K (.ref ct) (.ref cw) = some false)
    (ne_ct_cw : (ct == cw) = false)
    (gtu : PySem.W.nsIn K mainGlobals "Turner" = some (some (.ref tu)))
    (pgtu : PySem.W.plainGet K tu Str.empty = true)
    (hdtu : PySem.W.hasDictIn K tu = true)
    (potu : PySem.W.plainOver K tu = true)
    (satu : PySem.W.findIn K (.ref tu) "__setattr__" = some (some (.builtin "object.__setattr__")))
    (mktu : PySem.W.makesIn K tu = true)
    (ketu : PySem.W.keepIn K (.ref tu) = true)
    (catu : PySem.W.findIn K (.ref tu) "__class__" = some (some (.builtin "object.__class__")))
    (motu : PySem.W.mroIn K tu (.type "object") = some true)
    (ntu_letters : PySem.W.findIn K (.ref tu) "letters" = some none)
    (ntu_images : PySem.W.findIn K (.ref tu) "images" = some none)
    (ntu_size : PySem.W.findIn K (.ref tu) "size" = some none)
    (ntu_table : PySem.W.findIn K (.ref tu) "table" = some none)
    (atuinit : PySem.W.findIn K (.ref tu) "__init__" = some (some (.ref ftuinit)))
    (ltuinit : K.lookup ftuinit = some ⟨octuinit, odtuinit, .func (PySem.W.fnOf "__init__" "Turner.__init__" (defArgs s_tu_init) (defBody s_tu_init) (defScope s_tu_init) .none kVtuinit dctuinit pmtuinit antuinit cdtuinit cttuinit), sltuinit⟩)
    (ctuinit : PySem.W.codeIn K cdtuinit "Turner.__init__" = true)
    (ktuinit : PySem.W.keepIn K (.ref ftuinit) = true)
    (istuinit : PySem.W.isFn K (.ref ftuinit) = true)
    (atucall : PySem.W.findIn K (.ref tu) "__call__" = some (some (.ref ftucall)))
    (ltucall : K.lookup ftucall = some ⟨octucall, odtucall, .func (PySem.W.fnOf "__call__" "Turner.__call__" (defArgs s_tu_call) (defBody s_tu_call) (defScope s_tu_call) .none kVtucall dctucall pmtucall antucall cdtucall cttucall), sltucall⟩)
    (ctucall : PySem.W.codeIn K cdtucall "Turner.__call__" = true)
    (ktucall : PySem.W.keepIn K (.ref ftucall) = true)
    (istucall : PySem.W.isFn K (.ref ftucall) = true)
    (fntucall : PySem.W.fnIn K ftucall = true)
    (a_law_next : PySem.W.nsIn K mainGlobals "_law_next" = some (some (.ref f_law_next)))
    (l_law_next : K.lookup f_law_next = some ⟨oc_law_next, od_law_next, .func (PySem.W.fnOf "_law_next" "_law_next" (defArgs s_law_next) (defBody s_law_next) (defScope s_law_next) .none kV_law_next dc_law_next pm_law_next an_law_next cd_law_next ct_law_next), sl_law_next⟩)
    (c_law_next : PySem.W.codeIn K cd_law_next "_law_next" = true)
    (k_law_next : PySem.W.keepIn K (.ref f_law_next) = true)
    (a_law_start : PySem.W.nsIn K mainGlobals "_law_start" = some (some (.ref f_law_start)))
    (l_law_start : K.lookup f_law_start = some ⟨oc_law_start, od_law_start, .func (PySem.W.fnOf "_law_start" "_law_start" (defArgs s_law_start) (defBody s_law_start) (defScope s_law_start) .none kV_law_start dc_law_start pm_law_start an_law_start cd_law_start ct_law_start), sl_law_start⟩)
    (c_law_start : PySem.W.codeIn K cd_law_start "_law_start" = true)
    (k_law_start : PySem.W.keepIn K (.ref f_law_start) = true)
    (acheck_letters : PySem.W.nsIn K mainGlobals "check_letters" = some (some (.ref fcheck_letters)))
    (lcheck_letters : K.lookup fcheck_letters = some ⟨occheck_letters, odcheck_letters, .func (PySem.W.fnOf "check_letters" "check_letters" (defArgs s_check_letters) (defBody s_check_letters) (defScope s_check_letters) .none kVcheck_letters dccheck_letters pmcheck_letters ancheck_letters cdcheck_letters ctcheck_letters), slcheck_letters⟩)
    (ccheck_letters : PySem.W.codeIn K cdcheck_letters "check_letters" = true)
    (kcheck_letters : PySem.W.keepIn K (.ref fcheck_letters) = true)
    (acheck_word : PySem.W.nsIn K mainGlobals "check_word" = some (some (.ref fcheck_word)))
    (lcheck_word : K.lookup fcheck_word = some ⟨occheck_word, odcheck_word, .func (PySem.W.fnOf "check_word" "check_word" (defArgs s_check_word) (defBody s_check_word) (defScope s_check_word) .none kVcheck_word dccheck_word pmcheck_word ancheck_word cdcheck_word ctcheck_word), slcheck_word⟩)
    (ccheck_word : PySem.W.codeIn K cdcheck_word "check_word" = true)
    (kcheck_word : PySem.W.keepIn K (.ref fcheck_word) = true)
    (aview_at : PySem.W.nsIn K mainGlobals "view_at" = some (some (.ref fview_at)))
    (lview_at : K.lookup fview_at = some ⟨ocview_at, odview_at, .func (PySem.W.fnOf "view_at" "view_at" (defArgs s_view_at) (defBody s_view_at) (defScope s_view_at) .none kVview_at dcview_at pmview_at anview_at cdview_at ctview_at), slview_at⟩)
    (cview_at : PySem.W.codeIn K cdview_at "view_at" = true)
    (kview_at : PySem.W.keepIn K (.ref fview_at) = true)
    (a_law_view : PySem.W.nsIn K mainGlobals "_law_view" = some (some (.ref f_law_view)))
    (l_law_view : K.lookup f_law_view = some ⟨oc_law_view, od_law_view, .func (PySem.W.fnOf "_law_view" "_law_view" (defArgs s_law_view) (defBody s_law_view) (defScope s_law_view) .none kV_law_view dc_law_view pm_law_view an_law_view cd_law_view ct_law_view), sl_law_view⟩)
    (c_law_view : PySem.W.codeIn K cd_law_view "_law_view" = true)
    (k_law_view : PySem.W.keepIn K (.ref f_law_view) = true)
    (a_law_word : PySem.W.nsIn K mainGlobals "_law_word" = some (some (.ref f_law_word)))
    (l_law_word : K.lookup f_law_word = some ⟨oc_law_word, od_law_word, .func (PySem.W.fnOf "_law_word" "_law_word" (defArgs s_law_word) (defBody s_law_word) (defScope s_law_word) .none kV_law_word dc_law_word pm_law_word an_law_word cd_law_word ct_law_word), sl_law_word⟩)
    (c_law_word : PySem.W.codeIn K cd_law_word "_law_word" = true)
    (k_law_word : PySem.W.keepIn K (.ref f_law_word) = true)
    (a_law_image : PySem.W.nsIn K mainGlobals "_law_image" = some (some (.ref f_law_image)))
    (l_law_image : K.lookup f_law_image = some ⟨oc_law_image, od_law_image, .func (PySem.W.fnOf "_law_image" "_law_image" (defArgs s_law_image) (defBody s_law_image) (defScope s_law_image) .none kV_law_image dc_law_image pm_law_image an_law_image cd_law_image ct_law_image), sl_law_image⟩)
    (c_law_image : PySem.W.codeIn K cd_law_image "_law_image" = true)
    (k_law_image : PySem.W.keepIn K (.ref f_law_image) = true)
    (a_law_due_image : PySem.W.nsIn K mainGlobals "_law_due_image" = some (some (.ref f_law_due_image)))
    (l_law_due_image : K.lookup f_law_due_image = some ⟨oc_law_due_image, od_law_due_image, .func (PySem.W.fnOf "_law_due_image" "_law_due_image" (defArgs s_law_due_image) (defBody s_law_due_image) (defScope s_law_due_image) .none kV_law_due_image dc_law_due_image pm_law_due_image an_law_due_image cd_law_due_image ct_law_due_image), sl_law_due_image⟩)
    (c_law_due_image : PySem.W.codeIn K cd_law_due_image "_law_due_image" = true)
    (k_law_due_image : PySem.W.keepIn K (.ref f_law_due_image) = true)
    (acheck_pairs : PySem.W.nsIn K mainGlobals "check_pairs" = some (some (.ref fcheck_pairs)))
    (lcheck_pairs : K.lookup fcheck_pairs = some ⟨occheck_pairs, odcheck_pairs, .func (PySem.W.fnOf "check_pairs" "check_pairs" (defArgs s_check_pairs) (defBody s_check_pairs) (defScope s_check_pairs) .none kVcheck_pairs dccheck_pairs pmcheck_pairs ancheck_pairs cdcheck_pairs ctcheck_pairs), slcheck_pairs⟩)
    (ccheck_pairs : PySem.W.codeIn K cdcheck_pairs "check_pairs" = true)
    (kcheck_pairs : PySem.W.keepIn K (.ref fcheck_pairs) = true)
    (afirst_clash : PySem.W.nsIn K mainGlobals "first_clash" = some (some (.ref ffirst_clash)))
    (lfirst_clash : K.lookup ffirst_clash = some ⟨ocfirst_clash, odfirst_clash, .func (PySem.W.fnOf "first_clash" "first_clash" (defArgs s_first_clash) (defBody s_first_clash) (defScope s_first_clash) .none kVfirst_clash dcfirst_clash pmfirst_clash anfirst_clash cdfirst_clash ctfirst_clash), slfirst_clash⟩)
    (cfirst_clash : PySem.W.codeIn K cdfirst_clash "first_clash" = true)
    (kfirst_clash : PySem.W.keepIn K (.ref ffirst_clash) = true)
    (afit_turner : PySem.W.nsIn K mainGlobals "fit_turner" = some (some (.ref ffit_turner)))
    (lfit_turner : K.lookup ffit_turner = some ⟨ocfit_turner, odfit_turner, .func (PySem.W.fnOf "fit_turner" "fit_turner" (defArgs s_fit_turner) (defBody s_fit_turner) (defScope s_fit_turner) .none kVfit_turner dcfit_turner pmfit_turner anfit_turner cdfit_turner ctfit_turner), slfit_turner⟩)
    (cfit_turner : PySem.W.codeIn K cdfit_turner "fit_turner" = true)
    (kfit_turner : PySem.W.keepIn K (.ref ffit_turner) = true)
    (a_law_table : PySem.W.nsIn K mainGlobals "_law_table" = some (some (.ref f_law_table)))
    (l_law_table : K.lookup f_law_table = some ⟨oc_law_table, od_law_table, .func (PySem.W.fnOf "_law_table" "_law_table" (defArgs s_law_table) (defBody s_law_table) (defScope s_law_table) .none kV_law_table dc_law_table pm_law_table an_law_table cd_law_table ct_law_table), sl_law_table⟩)
    (c_law_table : PySem.W.codeIn K cd_law_table "_law_table" = true)
    (k_law_table : PySem.W.keepIn K (.ref f_law_table) = true)
    (a_law_integer : PySem.W.nsIn K mainGlobals "_law_integer" = some (some (.ref f_law_integer)))
    (l_law_integer : K.lookup f_law_integer = some ⟨oc_law_integer, od_law_integer, .func (PySem.W.fnOf "_law_integer" "_law_integer" (defArgs s_law_integer) (defBody s_law_integer) (defScope s_law_integer) .none kV_law_integer dc_law_integer pm_law_integer an_law_integer cd_law_integer ct_law_integer), sl_law_integer⟩)
    (c_law_integer : PySem.W.codeIn K cd_law_integer "_law_integer" = true)
    (k_law_integer : PySem.W.keepIn K (.ref f_law_integer) = true)
    (a_law_place : PySem.W.nsIn K mainGlobals "_law_place" = some (some (.ref f_law_place)))
    (l_law_place : K.lookup f_law_place = some ⟨oc_law_place, od_law_place, .func (PySem.W.fnOf "_law_place" "_law_place" (defArgs s_law_place) (defBody s_law_place) (defScope s_law_place) .none kV_law_place dc_law_place pm_law_place an_law_place cd_law_place ct_law_place), sl_law_place⟩)
    (c_law_place : PySem.W.codeIn K cd_law_place "_law_place" = true)
    (k_law_place : PySem.W.keepIn K (.ref f_law_place) = true)
    (a_law_clash : PySem.W.nsIn K mainGlobals "_law_clash" = some (some (.ref f_law_clash)))
    (l_law_clash : K.lookup f_law_clash = some ⟨oc_law_clash, od_law_clash, .func (PySem.W.fnOf "_law_clash" "_law_clash" (defArgs s_law_clash) (defBody s_law_clash) (defScope s_law_clash) .none kV_law_clash dc_law_clash pm_law_clash an_law_clash cd_law_clash ct_law_clash), sl_law_clash⟩)
    (c_law_clash : PySem.W.codeIn K cd_law_clash "_law_clash" = true)
    (k_law_clash : PySem.W.keepIn K (.ref f_law_clash) = true)
    (a_law_good_turner : PySem.W.nsIn K mainGlobals "_law_good_turner" = some (some (.ref f_law_good_turner)))
    (l_law_good_turner : K.lookup f_law_good_turner = some ⟨oc_law_good_turner, od_law_good_turner, .func (PySem.W.fnOf "_law_good_turner" "_law_good_turner" (defArgs s_law_good_turner) (defBody s_law_good_turner) (defScope s_law_good_turner) .none kV_law_good_turner dc_law_good_turner pm_law_good_turner an_law_good_turner cd_law_good_turner ct_law_good_turner), sl_law_good_turner⟩)
    (c_law_good_turner : PySem.W.codeIn K cd_law_good_turner "_law_good_turner" = true)
    (k_law_good_turner : PySem.W.keepIn K (.ref f_law_good_turner) = true)
    (a_law_spoil : PySem.W.nsIn K mainGlobals "_law_spoil" = some (some (.ref f_law_spoil)))
    (l_law_spoil : K.lookup f_law_spoil = some ⟨oc_law_spoil, od_law_spoil, .func (PySem.W.fnOf "_law_spoil" "_law_spoil" (defArgs s_law_spoil) (defBody s_law_spoil) (defScope s_law_spoil) .none kV_law_spoil dc_law_spoil pm_law_spoil an_law_spoil cd_law_spoil ct_law_spoil), sl_law_spoil⟩)
    (c_law_spoil : PySem.W.codeIn K cd_law_spoil "_law_spoil" = true)
    (k_law_spoil : PySem.W.keepIn K (.ref f_law_spoil) = true)
    (a_law_first_bad : PySem.W.nsIn K mainGlobals "_law_first_bad" = some (some (.ref f_law_first_bad)))
    (l_law_first_bad : K.lookup f_law_first_bad = some ⟨oc_law_first_bad, od_law_first_bad, .func (PySem.W.fnOf "_law_first_bad" "_law_first_bad" (defArgs s_law_first_bad) (defBody s_law_first_bad) (defScope s_law_first_bad) .none kV_law_first_bad dc_law_first_bad pm_law_first_bad an_law_first_bad cd_law_first_bad ct_law_first_bad), sl_law_first_bad⟩)
    (c_law_first_bad : PySem.W.codeIn K cd_law_first_bad "_law_first_bad" = true)
    (k_law_first_bad : PySem.W.keepIn K (.ref f_law_first_bad) = true)
    (a_law_refused : PySem.W.nsIn K mainGlobals "_law_refused" = some (some (.ref f_law_refused)))
    (l_law_refused : K.lookup f_law_refused = some ⟨oc_law_refused, od_law_refused, .func (PySem.W.fnOf "_law_refused" "_law_refused" (defArgs s_law_refused) (defBody s_law_refused) (defScope s_law_refused) .none kV_law_refused dc_law_refused pm_law_refused an_law_refused cd_law_refused ct_law_refused), sl_law_refused⟩)
    (c_law_refused : PySem.W.codeIn K cd_law_refused "_law_refused" = true)
    (k_law_refused : PySem.W.keepIn K (.ref f_law_refused) = true)
    (alaw : PySem.W.nsIn K mainGlobals "law" = some (some (.ref flaw)))
    (llaw : K.lookup flaw = some ⟨oclaw, odlaw, .func (PySem.W.fnOf "law" "law" (defArgs s_law) (defBody s_law) (defScope s_law) .none kVlaw dclaw pmlaw anlaw cdlaw ctlaw), sllaw⟩)
    (claw : PySem.W.codeIn K cdlaw "law" = true)
    (klaw : PySem.W.keepIn K (.ref flaw) = true) :
    ∃ fd : FuncData, (∀ (s : Shared) (v : Value), BindsTo s fd ⟨[v], []⟩ [("script", v)]) ∧ ∀ base : Heap, K.In base → base.Ns mainGlobals mg → FnOk l.prog w K mg base CX0 7 fa fd ["script"] (spLaw K) := by
  have e := hfa.symm.trans (PySem.W.mg_of X G alaw)
  cases e
  have Ocw : OexC K cw := ⟨⟨_, _, _, _, _, _, _, _, _, _, _, _, _, _, _, xcw, rcw⟩, sacw, excw, tycw, kecw⟩
  have Ecw : ErrC K mg "BadWord" cw fcw := ⟨Ocw, icw, ticw, PySem.W.mg_of X G gcw, ⟨gacw, ggcw, excw, hdcw⟩, ⟨gacw, ggcw, excw, hdcw, cacw, cg, tk, mocw⟩⟩
  have Scw : SupC l.prog K mg cw cccw (.ref cdacw) := ⟨Ocw, ⟨_, _, _, cecw⟩, ⟨_, _, _, _, _, _, _, rfl, cocw, vcw, ficw⟩, sucw, sbcw, svcw, tp, PySem.W.mg_none_of X G z_super, topS⟩
  have Oct : OexC K ct := ⟨⟨_, _, _, _, _, _, _, _, _, _, _, _, _, _, _, xct, rct⟩, sact, exct, tyct, kect⟩
  have Ect : ErrC K mg "BadText" ct fct := ⟨Oct, ict, tict, PySem.W.mg_of X G gct, ⟨gact, ggct, exct, hdct⟩, ⟨gact, ggct, exct, hdct, cact, cg, tk, moct⟩⟩
  have Sct : SupC l.prog K mg ct ccct (.ref cdact) := ⟨Oct, ⟨_, _, _, cect⟩, ⟨_, _, _, _, _, _, _, rfl, coct, vct, fict⟩, suct, sbct, svct, tp, PySem.W.mg_none_of X G z_super, topS⟩
  have Ctu : Cls K tu := ⟨pgtu, hdtu, potu, satu⟩
  have T : Txt K mg ⟨cl, cw, ct, tu⟩ := { n_len := PySem.W.mg_none_of X G z_len, n_int := PySem.W.mg_none_of X G z_int, n_abs := PySem.W.mg_none_of X G z_abs, n_max := PySem.W.mg_none_of X G z_max, n_range := PySem.W.mg_none_of X G z_range, n_enumerate := PySem.W.mg_none_of X G z_enumerate, n_isinstance := PySem.W.mg_none_of X G z_isinstance, n_tuple := PySem.W.mg_none_of X G z_tuple, n_dict := PySem.W.mg_none_of X G z_dict, n_list := PySem.W.mg_none_of X G z_list, n_bool := PySem.W.mg_none_of X G z_bool, g_SMALL := ⟨_, PySem.W.mg_of X G g_SMALL⟩, g_MOST_KINDS_OF_LETTERS := ⟨_, PySem.W.mg_of X G g_MOST_KINDS_OF_LETTERS⟩, g_LanguageError := PySem.W.mg_of X G gL, g_BadWord := PySem.W.mg_of X G gcw, g_BadText := PySem.W.mg_of X G gct, g_Turner := PySem.W.mg_of X G gtu, noW := ncw_word, noP := ncw_place, noL := nct_line, kww := kit_self, kwt := kit_ref ne_cw_ct hdct tyct sub_cw_ct, ktw := kit_ref ne_ct_cw hdcw tycw sub_ct_cw, ktt := kit_self, xw := PySem.W.exm_ref exB hdB tyB sub_cw_B, xt := PySem.W.exm_ref exB hdB tyB sub_ct_B, inT := ⟨Ctu, catu, cg, tk, motu, kit_self⟩, nLe := ntu_letters, nIm := ntu_images, nSi := ntu_size, nTa := ntu_table }
  have Ftuinit := fun_mk (st := s_tu_init) ltuinit ctuinit ktuinit
  have btuinit := Ftuinit.binds (ps := ["self", "letters", "images", "size", "table"]) fun _ _ _ _ _ _ us hl => match us, hl with | [_, _, _, _, _], _ => rfl
  have Ftucall := fun_mk (st := s_tu_call) ltucall ctucall ktucall
  have btucall := Ftucall.binds (ps := ["self", "word"]) fun _ _ _ _ _ _ us hl => match us, hl with | [_, _], _ => rfl
  have F_law_next := fun_mk (st := s_law_next) l_law_next c_law_next k_law_next
  have b_law_next := F_law_next.binds (ps := ["state", "many"]) fun _ _ _ _ _ _ us hl => match us, hl with | [_, _], _ => rfl
  have F_law_start := fun_mk (st := s_law_start) l_law_start c_law_start k_law_start
  have b_law_start := F_law_start.binds (ps := ["script"]) fun _ _ _ _ _ _ us hl => match us, hl with | [_], _ => rfl
  have Fcheck_letters := fun_mk (st := s_check_letters) lcheck_letters ccheck_letters kcheck_letters
  have bcheck_letters := Fcheck_letters.binds (ps := ["letters"]) fun _ _ _ _ _ _ us hl => match us, hl with | [_], _ => rfl
  have Fcheck_word := fun_mk (st := s_check_word) lcheck_word ccheck_word kcheck_word
  have bcheck_word := Fcheck_word.binds (ps := ["letters", "word"]) fun _ _ _ _ _ _ us hl => match us, hl with | [_, _], _ => rfl
  have Fview_at := fun_mk (st := s_view_at) lview_at cview_at kview_at
  have bview_at := Fview_at.binds (ps := ["word", "at", "size"]) fun _ _ _ _ _ _ us hl => match us, hl with | [_, _, _], _ => rfl
  have F_law_view := fun_mk (st := s_law_view) l_law_view c_law_view k_law_view
  have b_law_view := F_law_view.binds (ps := ["word", "at", "size"]) fun _ _ _ _ _ _ us hl => match us, hl with | [_, _, _], _ => rfl
  have F_law_word := fun_mk (st := s_law_word) l_law_word c_law_word k_law_word
  have b_law_word := F_law_word.binds (ps := ["state", "letters", "size"]) fun _ _ _ _ _ _ us hl => match us, hl with | [_, _, _], _ => rfl
  have F_law_image := fun_mk (st := s_law_image) l_law_image c_law_image k_law_image
  have b_law_image := F_law_image.binds (ps := ["state", "known", "word", "images", "size"]) fun _ _ _ _ _ _ us hl => match us, hl with | [_, _, _, _, _], _ => rfl
  have F_law_due_image := fun_mk (st := s_law_due_image) l_law_due_image c_law_due_image k_law_due_image
  have b_law_due_image := F_law_due_image.binds (ps := ["table", "word", "size"]) fun _ _ _ _ _ _ us hl => match us, hl with | [_, _, _], _ => rfl
  have Fcheck_pairs := fun_mk (st := s_check_pairs) lcheck_pairs ccheck_pairs kcheck_pairs
  have bcheck_pairs := Fcheck_pairs.binds (ps := ["letters", "images", "pairs"]) fun _ _ _ _ _ _ us hl => match us, hl with | [_, _, _], _ => rfl
  have Ffirst_clash := fun_mk (st := s_first_clash) lfirst_clash cfirst_clash kfirst_clash
  have bfirst_clash := Ffirst_clash.binds (ps := ["pairs", "size"]) fun _ _ _ _ _ _ us hl => match us, hl with | [_, _], _ => rfl
  have Ffit_turner := fun_mk (st := s_fit_turner) lfit_turner cfit_turner kfit_turner
  have bfit_turner := Ffit_turner.binds (ps := ["letters", "images", "size", "pairs"]) fun _ _ _ _ _ _ us hl => match us, hl with | [_, _, _, _], _ => rfl
  have F_law_table := fun_mk (st := s_law_table) l_law_table c_law_table k_law_table
  have b_law_table := F_law_table.binds (ps := ["pairs", "size"]) fun _ _ _ _ _ _ us hl => match us, hl with | [_, _], _ => rfl
  have F_law_integer := fun_mk (st := s_law_integer) l_law_integer c_law_integer k_law_integer
  have b_law_integer := F_law_integer.binds (ps := ["actual"]) fun _ _ _ _ _ _ us hl => match us, hl with | [_], _ => rfl
  have F_law_place := fun_mk (st := s_law_place) l_law_place c_law_place k_law_place
  have b_law_place := F_law_place.binds (ps := ["pairs", "place"]) fun _ _ _ _ _ _ us hl => match us, hl with | [_, _], _ => rfl
  have F_law_clash := fun_mk (st := s_law_clash) l_law_clash c_law_clash k_law_clash
  have b_law_clash := F_law_clash.binds (ps := ["pairs", "size", "answer"]) fun _ _ _ _ _ _ us hl => match us, hl with | [_, _, _], _ => rfl
  have F_law_good_turner := fun_mk (st := s_law_good_turner) l_law_good_turner c_law_good_turner k_law_good_turner
  have b_law_good_turner := F_law_good_turner.binds (ps := ["turner", "letters", "images", "size", "table", "pairs", "more"]) fun _ _ _ _ _ _ us hl => match us, hl with | [_, _, _, _, _, _, _], _ => rfl
  have F_law_spoil := fun_mk (st := s_law_spoil) l_law_spoil c_law_spoil k_law_spoil
  have b_law_spoil := F_law_spoil.binds (ps := ["state", "pairs", "letters", "images"]) fun _ _ _ _ _ _ us hl => match us, hl with | [_, _, _, _], _ => rfl
  have F_law_first_bad := fun_mk (st := s_law_first_bad) l_law_first_bad c_law_first_bad k_law_first_bad
  have b_law_first_bad := F_law_first_bad.binds (ps := ["pairs", "letters", "images"]) fun _ _ _ _ _ _ us hl => match us, hl with | [_, _, _], _ => rfl
  have F_law_refused := fun_mk (st := s_law_refused) l_law_refused c_law_refused k_law_refused
  have b_law_refused := F_law_refused.binds (ps := ["letters", "images", "size", "pairs", "bad"]) fun _ _ _ _ _ _ us hl => match us, hl with | [_, _, _, _, _], _ => rfl
  have Flaw := fun_mk (st := s_law) llaw claw klaw
  refine ⟨PySem.W.fnOf "law" "law" (defArgs s_law) (defBody s_law) (defScope s_law) .none kVlaw dclaw pmlaw anlaw cdlaw ctlaw, fun s v => .of_eq rfl, fun base _ _ => ?_⟩
  have R_BadWord : Raiser l.prog w K mg base "BadWord" cw (spErr2 cw "word" "place") := ⟨⟨fcw, _, ["self", "word", "place"], Ecw, w_bw (ad := ⟨cl, cw, ct, tu⟩) Scw ncw_word ncw_place lcw ccw, .all (fun us hl => match us, hl with | [_, _, _], _ => rfl)⟩⟩
  have R_BadText : Raiser l.prog w K mg base "BadText" ct (spErr1 ct "line") := ⟨⟨fct, _, ["self", "line"], Ect, w_bt (ad := ⟨cl, cw, ct, tu⟩) Sct nct_line lct cct, .all (fun us hl => match us, hl with | [_, _], _ => rfl)⟩⟩
  have c_law_next := CalX.mk ⟨_, _, _, w_law_next (P := l.prog) (w := w) (base := base) T  F_law_next, PySem.W.mg_of X G a_law_next, k_law_next, b_law_next⟩
  have c_law_start := CalX.mk ⟨_, _, _, w_law_start (P := l.prog) (w := w) (base := base) T  F_law_start, PySem.W.mg_of X G a_law_start, k_law_start, b_law_start⟩
  have c_check_letters := CalX.mk ⟨_, _, _, w_check_letters (P := l.prog) (w := w) (base := base) T  Fcheck_letters, PySem.W.mg_of X G acheck_letters, kcheck_letters, bcheck_letters⟩
  have c_check_word := CalX.mk ⟨_, _, _, w_check_word (P := l.prog) (w := w) (base := base) T R_BadWord  Fcheck_word, PySem.W.mg_of X G acheck_word, kcheck_word, bcheck_word⟩
  have c_view_at := CalX.mk ⟨_, _, _, w_view_at (P := l.prog) (w := w) (base := base) T  Fview_at, PySem.W.mg_of X G aview_at, kview_at, bview_at⟩
  have c_law_view := CalX.mk ⟨_, _, _, w_law_view (P := l.prog) (w := w) (base := base) T  F_law_view, PySem.W.mg_of X G a_law_view, k_law_view, b_law_view⟩
  have c_law_word := CalX.mk ⟨_, _, _, w_law_word (P := l.prog) (w := w) (base := base) T c_law_next  F_law_word, PySem.W.mg_of X G a_law_word, k_law_word, b_law_word⟩
  have c_law_image := CalX.mk ⟨_, _, _, w_law_image (P := l.prog) (w := w) (base := base) T c_law_next c_law_view  F_law_image, PySem.W.mg_of X G a_law_image, k_law_image, b_law_image⟩
  have c_law_due_image := CalX.mk ⟨_, _, _, w_law_due_image (P := l.prog) (w := w) (base := base) T c_law_view  F_law_due_image, PySem.W.mg_of X G a_law_due_image, k_law_due_image, b_law_due_image⟩
  have M_Turner : MakX l.prog w K mg base 2 "Turner" tu (spTInit tu) := ⟨⟨_, _, _, ⟨mktu, atuinit, istuinit, ketu⟩, w_tu_init T c_check_letters Ftuinit, PySem.W.mg_of X G gtu, btuinit⟩⟩
  have X_Turner : CallX l.prog w K mg base 4 tu (spTCall tu) := ⟨⟨_, _, _, ⟨atucall, istucall, fntucall⟩, w_tu_call T c_check_word c_view_at Ftucall, btucall⟩⟩
  have c_check_pairs := CalX.mk ⟨_, _, _, w_check_pairs (P := l.prog) (w := w) (base := base) T R_BadText c_check_letters c_check_word  Fcheck_pairs, PySem.W.mg_of X G acheck_pairs, kcheck_pairs, bcheck_pairs⟩
  have c_first_clash := CalX.mk ⟨_, _, _, w_first_clash (P := l.prog) (w := w) (base := base) T c_view_at  Ffirst_clash, PySem.W.mg_of X G afirst_clash, kfirst_clash, bfirst_clash⟩
  have c_fit_turner := CalX.mk ⟨_, _, _, w_fit_turner (P := l.prog) (w := w) (base := base) T c_check_pairs c_first_clash c_view_at M_Turner  Ffit_turner, PySem.W.mg_of X G afit_turner, kfit_turner, bfit_turner⟩
  have c_law_table := CalX.mk ⟨_, _, _, w_law_table (P := l.prog) (w := w) (base := base) T c_law_view  F_law_table, PySem.W.mg_of X G a_law_table, k_law_table, b_law_table⟩
  have c_law_integer := CalX.mk ⟨_, _, _, w_law_integer (P := l.prog) (w := w) (base := base) T  F_law_integer, PySem.W.mg_of X G a_law_integer, k_law_integer, b_law_integer⟩
  have c_law_place := CalX.mk ⟨_, _, _, w_law_place (P := l.prog) (w := w) (base := base) T c_law_integer  F_law_place, PySem.W.mg_of X G a_law_place, k_law_place, b_law_place⟩
  have c_law_clash := CalX.mk ⟨_, _, _, w_law_clash (P := l.prog) (w := w) (base := base) T c_law_place c_law_view  F_law_clash, PySem.W.mg_of X G a_law_clash, k_law_clash, b_law_clash⟩
  have c_law_good_turner := CalX.mk ⟨_, _, _, w_law_good_turner (P := l.prog) (w := w) (base := base) T X_Turner c_law_due_image  F_law_good_turner, PySem.W.mg_of X G a_law_good_turner, k_law_good_turner, b_law_good_turner⟩
  have c_law_spoil := CalX.mk ⟨_, _, _, w_law_spoil (P := l.prog) (w := w) (base := base) T c_law_next  F_law_spoil, PySem.W.mg_of X G a_law_spoil, k_law_spoil, b_law_spoil⟩
  have c_law_first_bad := CalX.mk ⟨_, _, _, w_law_first_bad (P := l.prog) (w := w) (base := base) T  F_law_first_bad, PySem.W.mg_of X G a_law_first_bad, k_law_first_bad, b_law_first_bad⟩
  have c_law_refused := CalX.mk ⟨_, _, _, w_law_refused (P := l.prog) (w := w) (base := base) T Ecw Ect c_fit_turner  F_law_refused, PySem.W.mg_of X G a_law_refused, k_law_refused, b_law_refused⟩
  exact w_law T c_law_start c_law_next c_law_word c_law_image c_law_spoil c_law_first_bad c_law_refused c_fit_turner c_law_table c_law_clash c_law_good_turner Flaw
theorem walk {l : PySem.W.OpenLaw} {q : Program} {loose : List Str} {XP : (Str → Option Value) → Heap → Prop} {YP : World → Heap → Prop} {d : DefRec} {K : Params → PySem.W.Frag} (hn : l.most = some 63) (hdf : d.params.defaults = [])
    (hY : ∀ (w : World) (h : Heap), YP w h → (K w.params).In h)
    (F : ∀ (w : World) (mg : Str → Option Value) (fa : Addr) (h : Heap), (K w.params).In h → h.Ns mainGlobals mg → mg d.name = some (.ref fa) →
      ∃ fd : FuncData, (∀ (s : Shared) (u : Value), BindsTo s fd ⟨[u], []⟩ [("script", u)]) ∧ ∀ base : Heap, (K w.params).In base → base.Ns mainGlobals mg → FnOk l.prog w (K w.params) mg base CX0 7 fa fd ["script"] (spLaw (K w.params))) :
    PySem.W.WalkO q loose XP YP l.row.toRowW d [] (fun f vs => PySem.call f vs) :=
  L2.walk_of (n := 63) (k := 7) (x := "script") (CX := fun _ => CX0) (sp := fun w => spLaw (K w.params)) hn (by decide) hdf ⟨rfl, by decide, by decide⟩ hY F (fun _ _ a ns hl _ hS => ⟨a, ns, rfl, hS, hl, fun _ => rfl⟩) fun _ _ _ _ _ z => z
end TZ

open PySem PySem.W PyProof.Rows
set_option maxRecDepth 100000 in
set_option maxHeartbeats 0 in
theorem PySem.Challenge.cw_treesfromyes_k87_turner_fits_or_clash_holds : PySem.Challenge.rw_treesfromyes_k87_turner_fits_or_clash.Holds := by
  w_on; o_law; k_head; (case hw => w_witness2)
  k_fill
  refine TZ.walk (l := PySem.Challenge.rw_treesfromyes_k87_turner_fits_or_clash) rfl rfl (fun w h Y => PySem.W.kIn_of Y) ?F
  case F =>
    intro w mg fa h KX G hmg
    refine' TZ.all_mk KX G hmg ?z_len ?z_int ?z_abs ?z_max ?z_range ?z_enumerate ?z_isinstance ?z_tuple ?z_dict ?z_list ?z_bool ?g_SMALL ?g_MOST_KINDS_OF_LETTERS ?cg ?tk ?tp ?z_super ?topS ?gL ?exB ?tyB ?hdB ?gcw ?xcw ?rcw ?sacw ?gacw ?ggcw ?excw ?tycw ?kecw ?hdcw ?cacw ?mocw ?icw ?ticw ?lcw ?ccw ?cecw ?cocw ?vcw ?ficw ?sucw ?sbcw ?svcw ?ncw_word ?ncw_place ?gct ?xct ?rct ?sact ?gact ?ggct ?exct ?tyct ?kect ?hdct ?cact ?moct ?ict ?tict ?lct ?cct ?cect ?coct ?vct ?fict ?suct ?sbct ?svct ?nct_line ?sub_cw_B ?sub_ct_B ?sub_cw_ct ?ne_cw_ct ?sub_ct_cw ?ne_ct_cw ?gtu ?pgtu ?hdtu ?potu ?satu ?mktu ?ketu ?catu ?motu ?ntu_letters ?ntu_images ?ntu_size ?ntu_table ?atuinit ?ltuinit ?ctuinit ?ktuinit ?istuinit ?atucall ?ltucall ?ctucall ?ktucall ?istucall ?fntucall ?a_law_next ?l_law_next ?c_law_next ?k_law_next ?a_law_start ?l_law_start ?c_law_start ?k_law_start ?acheck_letters ?lcheck_letters ?ccheck_letters ?kcheck_letters ?acheck_word ?lcheck_word ?ccheck_word ?kcheck_word ?aview_at ?lview_at ?cview_at ?kview_at ?a_law_view ?l_law_view ?c_law_view ?k_law_view ?a_law_word ?l_law_word ?c_law_word ?k_law_word ?a_law_image ?l_law_image ?c_law_image ?k_law_image ?a_law_due_image ?l_law_due_image ?c_law_due_image ?k_law_due_image ?acheck_pairs ?lcheck_pairs ?ccheck_pairs ?kcheck_pairs ?afirst_clash ?lfirst_clash ?cfirst_clash ?kfirst_clash ?afit_turner ?lfit_turner ?cfit_turner ?kfit_turner ?a_law_table ?l_law_table ?c_law_table ?k_law_table ?a_law_integer ?l_law_integer ?c_law_integer ?k_law_integer ?a_law_place ?l_law_place ?c_law_place ?k_law_place ?a_law_clash ?l_law_clash ?c_law_clash ?k_law_clash ?a_law_good_turner ?l_law_good_turner ?c_law_good_turner ?k_law_good_turner ?a_law_spoil ?l_law_spoil ?c_law_spoil ?k_law_spoil ?a_law_first_bad ?l_law_first_bad ?c_law_first_bad ?k_law_first_bad ?a_law_refused ?l_law_refused ?c_law_refused ?k_law_refused ?alaw ?llaw ?claw ?klaw
    (case z_len => k_is)
    (case z_int => k_is)
    (case z_abs => k_is)
    (case z_max => k_is)
    (case z_range => k_is)
    (case z_enumerate => k_is)
    (case z_isinstance => k_is)
    (case z_tuple => k_is)
    (case z_dict => k_is)
    (case z_list => k_is)
    (case z_bool => k_is)
    (case g_SMALL => k_is)
    (case g_MOST_KINDS_OF_LETTERS => k_is)
    (case cg => k_is)
    (case tk => k_is)
    (case tp => k_is)
    (case z_super => k_is)
    (case topS => exact rfl)
    (case gL => k_is)
    (case exB => k_is)
    (case tyB => k_is)
    (case hdB => k_is)
    (case gcw => k_is)
    (case xcw => k_is)
    (case rcw => exact rfl)
    (case sacw => k_is)
    (case gacw => k_is)
    (case ggcw => k_is)
    (case excw => k_is)
    (case tycw => k_is)
    (case kecw => k_is)
    (case hdcw => k_is)
    (case cacw => k_is)
    (case mocw => k_is)
    (case icw => k_is)
    (case ticw => k_is)
    (case lcw => k_is)
    (case ccw => k_is)
    (case cecw => k_is)
    (case cocw => k_is)
    (case vcw => exact rfl)
    (case ficw => first | exact rfl | decide +kernel)
    (case sucw => ks_is)
    (case sbcw => k_is)
    (case svcw => k_is)
    (case ncw_word => k_is)
    (case ncw_place => k_is)
    (case gct => k_is)
    (case xct => k_is)
    (case rct => exact rfl)
    (case sact => k_is)
    (case gact => k_is)
    (case ggct => k_is)
    (case exct => k_is)
    (case tyct => k_is)
    (case kect => k_is)
    (case hdct => k_is)
    (case cact => k_is)
    (case moct => k_is)
    (case ict => k_is)
    (case tict => k_is)
    (case lct => k_is)
    (case cct => k_is)
    (case cect => k_is)
    (case coct => k_is)
    (case vct => exact rfl)
    (case fict => first | exact rfl | decide +kernel)
    (case suct => ks_is)
    (case sbct => k_is)
    (case svct => k_is)
    (case nct_line => k_is)
    (case sub_cw_B => k_is)
    (case sub_ct_B => k_is)
    (case sub_cw_ct => k_is)
    (case ne_cw_ct => exact rfl)
    (case sub_ct_cw => k_is)
    (case ne_ct_cw => exact rfl)
    (case gtu => k_is)
    (case pgtu => k_is)
    (case hdtu => k_is)
    (case potu => k_is)
    (case satu => k_is)
    (case mktu => k_is)
    (case ketu => k_is)
    (case catu => k_is)
    (case motu => k_is)
    (case ntu_letters => k_is)
    (case ntu_images => k_is)
    (case ntu_size => k_is)
    (case ntu_table => k_is)
    (case atuinit => k_is)
    (case ltuinit => k_is)
    (case ctuinit => k_is)
    (case ktuinit => k_is)
    (case istuinit => k_is)
    (case atucall => k_is)
    (case ltucall => k_is)
    (case ctucall => k_is)
    (case ktucall => k_is)
    (case istucall => k_is)
    (case fntucall => k_is)
    (case a_law_next => k_is)
    (case l_law_next => k_is)
    (case c_law_next => k_is)
    (case k_law_next => k_is)
    (case a_law_start => k_is)
    (case l_law_start => k_is)
    (case c_law_start => k_is)
    (case k_law_start => k_is)
    (case acheck_letters => k_is)
    (case lcheck_letters => k_is)
    (case ccheck_letters => k_is)
    (case kcheck_letters => k_is)
    (case acheck_word => k_is)
    (case lcheck_word => k_is)
    (case ccheck_word => k_is)
    (case kcheck_word => k_is)
    (case aview_at => k_is)
    (case lview_at => k_is)
    (case cview_at => k_is)
    (case kview_at => k_is)
    (case a_law_view => k_is)
    (case l_law_view => k_is)
    (case c_law_view => k_is)
    (case k_law_view => k_is)
    (case a_law_word => k_is)
    (case l_law_word => k_is)
    (case c_law_word => k_is)
    (case k_law_word => k_is)
    (case a_law_image => k_is)
    (case l_law_image => k_is)
    (case c_law_image => k_is)
    (case k_law_image => k_is)
    (case a_law_due_image => k_is)
    (case l_law_due_image => k_is)
    (case c_law_due_image => k_is)
    (case k_law_due_image => k_is)
    (case acheck_pairs => k_is)
    (case lcheck_pairs => k_is)
    (case ccheck_pairs => k_is)
    (case kcheck_pairs => k_is)
    (case afirst_clash => k_is)
    (case lfirst_clash => k_is)
    (case cfirst_clash => k_is)
    (case kfirst_clash => k_is)
    (case afit_turner => k_is)
    (case lfit_turner => k_is)
    (case cfit_turner => k_is)
    (case kfit_turner => k_is)
    (case a_law_table => k_is)
    (case l_law_table => k_is)
    (case c_law_table => k_is)
    (case k_law_table => k_is)
    (case a_law_integer => k_is)
    (case l_law_integer => k_is)
    (case c_law_integer => k_is)
    (case k_law_integer => k_is)
    (case a_law_place => k_is)
    (case l_law_place => k_is)
    (case c_law_place => k_is)
    (case k_law_place => k_is)
    (case a_law_clash => k_is)
    (case l_law_clash => k_is)
    (case c_law_clash => k_is)
    (case k_law_clash => k_is)
    (case a_law_good_turner => k_is)
    (case l_law_good_turner => k_is)
    (case c_law_good_turner => k_is)
    (case k_law_good_turner => k_is)
    (case a_law_spoil => k_is)
    (case l_law_spoil => k_is)
    (case c_law_spoil => k_is)
    (case k_law_spoil => k_is)
    (case a_law_first_bad => k_is)
    (case l_law_first_bad => k_is)
    (case c_law_first_bad => k_is)
    (case k_law_first_bad => k_is)
    (case a_law_refused => k_is)
    (case l_law_refused => k_is)
    (case c_law_refused => k_is)
    (case k_law_refused => k_is)
    (case alaw => k_is)
    (case llaw => k_is)
    (case claw => k_is)
    (case klaw => k_is)

