import PyProof.Rows.All
import Wide.All
import OpenK.AllK
import Wide.FinOn
import PySem.Challenge.RW_treesfromyes_k87_turner_fits_or_clash
import HandS.ForMost
import HandS.ForExc
import HandS.ExcInit
import HandS.HotCalls
import HandS.ExcIs
import HandS.ExcField
import HandS.Walk
import HandS.Flow
import HandS.IsInst
import HandS.TryMany
import KE.GoesMore
import KE.KExcSuper
import KE.KExcIs
import KE.KItemsList
import KE.KDictZip
import HandS.DictComp
import HandS.Replace
import HandS.ReplaceList
import HandS.ReplaceLit
import HandS.ReplaceDef
import HandS.More
import HandS.Conv
import HandS.New
import HandS.FStr
import HandS.SortKw
import KE.SortKeyHeap
import KE.SortData
import KE.KDictKeyed
import OpenK.KMeth
import HandS.Deep
import HandS.Star
import HandS.SetKeys
set_option Elab.async false
set_option linter.all false
set_option maxRecDepth 100000
set_option maxHeartbeats 4100000
/-! rules of my own over the layer: enumerate of a text, xs[i] += e -/
namespace TY
open PySem PyProof.Rows PySem.Spec L2

/-- enumerate(text): at each turn a fresh pair of the place and the sign -/
def IteS (z : Str) : It where
  go := fun i _ => i < z.cps.size
  yld := fun i H v H' => ∃ T c, v = V.ref T ∧ H T = none ∧ z.cps[i]? = some c ∧ H' = upd H T (.tup [V.int (i : Nat), V.str ⟨#[c]⟩])
  stop := fun i _ => i = z.cps.size

def EnumSt (z : Str) (t : Tok) (e it : Addr) (i : Nat) (h : Heap) : Prop :=
  (∃ old, IsEnum h e it ((i : Nat) : Int) old) ∧ h.IsStrIter it (strIterType z) z t i ∧ e ≠ it

theorem strIter_obj {h : Heap} {it : Addr} {ty : String} {z : Str} {t : Tok} {i : Nat} (q : h.IsStrIter it ty z t i) : ∃ o, h.get? it = some o ∧ ∀ v, o.data ≠ .cell v := by
  obtain ⟨o, e, c, d⟩ := q
  exact ⟨o, e, fun v y => by rw [d] at y; cases y⟩

theorem turn_enumS {P : Program} {w : World} {K : PySem.W.Frag} {elts : List Expr} {kk : Nat} {tpos : Pos} (z : Str) (t : Tok) (e it : Addr) :
    Turn P w K (.Tuple elts kk tpos) (IteS z) [e, it] e (EnumSt z t e it) where
  mem := by simp
  obj := by
    intro i h st b hb
    obtain ⟨⟨old, he⟩, hs, _⟩ := st
    (rcases List.mem_cons.mp hb with rfl | hb)
    · exact ⟨_, he, fun v q => nomatch q⟩
    · (rw [List.mem_singleton.mp hb])
      exact strIter_obj hs
  keep := by
    intro i h h' st k
    obtain ⟨⟨old, he⟩, ⟨o, ho, hr⟩, hne⟩ := st
    exact ⟨⟨old, k e (by simp) _ he⟩, ⟨o, k it (by simp) o ho, hr⟩, hne⟩
  item := by
    (intro X hP hw hK hc i pins s σ H E I hf st hg)
    subst hP hw hK
    obtain ⟨⟨old, he⟩, hs, hne⟩ := st
    (have hel : e < s.heap.objs.size := Heap.lt_size he)
    have hil : it < s.heap.objs.size := by
      obtain ⟨_, q, _⟩ := id hs
      exact Heap.lt_size q
    have Dr := Draws.text (prog := X.prog) (w := X.w) (A := X.A.in1) (I.ok.hd hc) it z t
    refine wpAny_pyNext_enum_itemD (n := z.cps.size) Dr he hs hg hne (by simpa using hne) fun v h' tk hv ho hs' hT hsz hk => ?_
    obtain ⟨c, u, hcx, rfl⟩ := hv
    refine ⟨_, rfl, wpAny_letOwnedTupleGo_enum (s := { s with heap := h', toks := tk + 1 }) ho fun h2 he2 sb => ?_⟩
    have hT2 : h2.get? s.heap.objs.size = some { cls := .type "tuple", data := .seq #[.int i tk, .str ⟨#[c]⟩ u] } := (sb.2 _ (Nat.ne_of_gt hel)).trans hT
    have fresh : ObjOk X.prog X.w (upd H s.heap.objs.size (.tup [V.int (i : Nat), V.str ⟨#[c]⟩])) h2 s.heap.objs.size (.tup [V.int (i : Nat), V.str ⟨#[c]⟩]) :=
      ⟨by show 2 ≤ sizeLine; decide, [.int i tk, .str ⟨#[c]⟩ u], .cons ⟨_, rfl⟩ (.cons ⟨_, rfl⟩ .nil), ⟨_, hT2, rfl, _, rfl⟩⟩
    have J : Inv X pins σ (upd H s.heap.objs.size (.tup [V.int (i : Nat), V.str ⟨#[c]⟩])) { s with heap := h2, toks := tk + 1 } := by
      refine I.turnedNew (ch := [e, it]) (fun b ob hb q => ?_) hf (Nat.le_refl _) fresh
      have b1 : b ≠ e := fun y => hb (by simp [y])
      have b2 : b ≠ it := fun y => hb (by simp [y])
      exact (sb.2 b b1).trans (hk b ob b1 b2 q)
    refine ⟨.ref s.heap.objs.size, _, J, rfl, ⟨_, c, rfl, I.hok.fresh (Nat.le_refl _), hcx, rfl⟩, ⟨⟨.str ⟨#[c]⟩ u, ?_⟩, ?_, hne⟩, fun b hb => ?_⟩
    · (have e1 : ((i + 1 : Nat) : Int) = (i : Int) + 1 := by omega)
      rw [e1]
      exact he2
    · obtain ⟨o, q1, q2⟩ := hs'
      exact ⟨o, (sb.2 it (Ne.symm hne)).trans q1, q2⟩
    · have hlt : b < s.heap.objs.size := by
        (rcases List.mem_cons.mp hb with rfl | hb)
        · exact hel
        · (rw [List.mem_singleton.mp hb])
          exact hil
      (rw [upd_ne (Nat.ne_of_lt hlt)])
      exact (hf b hb).1
  done := by
    (intro X hP hw hK hc i pins s σ H E I hf st hg)
    subst hP hw hK
    obtain ⟨⟨old, he⟩, hs, hne⟩ := st
    (obtain ⟨f0, f1, f2, f3, f4, f5⟩ := hf it (by simp))
    have Dr := Draws.text (prog := X.prog) (w := X.w) (A := X.A.in1) (I.ok.hd hc) it z t
    have hg' : i = z.cps.size := hg
    subst hg'
    exact wpAny_pyNext_enum_endD (n := z.cps.size) Dr he hs fun h' eb => ⟨rfl, I.turned (t' := s.toks) (fun b o hb q => eb b o hb q) f0 f1 f3 f4 f5⟩
  self := fun A i s Q E st h => wpAny_pyIter_enum st.1.choose_spec h


def iEnumS (ta : TA) : TI := fun σ H R => ta σ H fun vs H1 => ∃ z, vs = [V.str z] ∧ R (IteS z) H1
theorem pi_enumS {X : Cx} {e : Expr} {ta : TA} {p pos tpos : Pos} {elts : List Expr} {kk : Nat} (hg : Gl X "enumerate") (hm : X.mg "enumerate" = none) (ha : PA X [e] ta)
    (hs : starEach [e] X.env = [(false, eval e X.env)] := by rfl) : PI X (.Tuple elts kk tpos) (.Call (.Name "enumerate" p) [e] [] pos) (iEnumS ta) := by
  (refine ⟨fun pins s σ H R I h => ?_⟩)
  refine Call_ (ld_blt I hg hm boot_enumerate (PyProof.Rows.callWith_type1 (thn (ha.run pos pins s σ H _ I h) fun us s1 hh => ?_) hs rfl))
  obtain ⟨vs, H1, I1, r1, z, ez, q⟩ := hh
  subst ez
  cases r1 with
  | cons r rr =>
    cases rr
    obtain ⟨t, rfl⟩ := r
    refine call_enumerate_str fun h' he hit hsz hk => wpAny_pyIter_enum he ?_
    (have I2 : Inv X pins σ H1 { s1 with heap := h' } := I1.kept (t' := s1.toks) hk)
    refine ⟨s1.heap.objs.size + 1, [s1.heap.objs.size + 1, s1.heap.objs.size], _, IteS z, H1, rfl, I2, turn_enumS z t (s1.heap.objs.size + 1) s1.heap.objs.size, ⟨⟨.none, he⟩, hit, Nat.succ_ne_self _⟩, fun b hb => ?_, q⟩
    have hle : b ≥ s1.heap.objs.size := by
      (rcases List.mem_cons.mp hb with rfl | hb)
      · exact Nat.le_add_right _ _
      · (rw [List.mem_singleton.mp hb])
        exact Nat.le_refl _
    (exact I1.fpOk hle (I1.hok.fresh hle))
/-- the walk: n turns, at each a fresh pair -/
theorem walk_enumS {z : Str} : Walk (IteS z) z.cps.size (fun _ => True) (fun i H v H' => ∃ T c, v = V.ref T ∧ H T = none ∧ z.cps[i]? = some c ∧ H' = upd H T (.tup [V.int (i : Nat), V.str ⟨#[c]⟩])) :=
  ⟨fun _ _ hi _ => hi, fun _ _ => rfl, fun _ _ _ _ _ _ y => y⟩

/-- xs[i], by values, for xs[i] += e -/
theorem pget_list {X : Cx} : PGet X (rIxL X.K) := by
  intro pins s σ H o i ov iv Q I ro ri h
  obtain ⟨p, xs, j, v, rfl, rfl, hq, ha, q⟩ := h
  cases ro
  obtain ⟨t, rfl⟩ := ri
  (obtain ⟨its, r, pl, hz⟩ := I.list hq)
  obtain ⟨k, h1, h2, h3, h4, h5⟩ := atI_get ha
  (obtain ⟨w, ew, rw'⟩ := r.get h2)
  have hl := r.length
  have hn := line63
  have fin : EP X pins σ Q w s := ⟨v, H, I, rw', q⟩
  by_cases h0 : 0 ≤ j
  · rw [seqIndex_of h0 h5] at h1
    have hj : j.toNat = k := Option.some.inj h1
    exact wpAny_getItem_list pl.isList h0 (by omega) (by rw [hj]; simpa using ew) fin
  · rw [seqIndex_neg (by omega) h4] at h1
    have hj : (j + (its.toArray.size : Int)).toNat = k := by
      rw [List.size_toArray, ← hl]
      exact Option.some.inj h1
    exact wpAny_getItem_list_neg pl.isList (by omega) (by rw [List.size_toArray] <;> omega) (by omega) (by rw [hj]; simpa using ew) fin

end TY

/-! an own exception's __init__ that begins with super().__init__(text), as a def that keeps a promise -/
namespace TY
open PySem PyProof.Rows PySem.Spec L2 PySem.W

theorem rev_look : ∀ {ps : List Str} {us : List Value} {i : Nat} {x : Str} {u : Value}, ps.Nodup → ps[i]? = some x → us[i]? = some u → (ps.zip us).reverse.lookup x = some u
  | [], _, _, _, _, _, hx, _ => by simp at hx
  | p :: ps, [], _, _, _, _, _, h => by simp at h
  | p :: ps, v :: us, 0, x, u, nd, h1, h2 =>
   by
    have e1 : p = x := by simpa using h1
    have e2 : v = u := by simpa using h2
    subst e1 e2
    have hn : (ps.zip us).reverse.lookup p = none := by
      rw [List.lookup_eq_none_iff]
      intro q hq
      have hm := (List.of_mem_zip (a := q.1) (b := q.2) (by simpa using hq)).1
      have no : p ∉ ps := (List.nodup_cons.mp nd).1
      have y : ¬ p = q.1 := fun e => no (e ▸ hm)
      simpa using y
    (rw [List.zip_cons_cons, List.reverse_cons, List.lookup_append, hn])
    simp [List.lookup]
  | p :: ps, v :: us, i + 1, x, u, nd, h1, h2 =>
   by
    have ih := rev_look (ps := ps) (us := us) (i := i) (x := x) (u := u) (List.nodup_cons.mp nd).2 (by simpa using h1) (by simpa using h2)
    rw [List.zip_cons_cons, List.reverse_cons, List.lookup_append, ih]
    rfl

section
variable {prog : Program} {w : World} {A : Around} {h : Heap} {E : Value → Shared → Prop}
variable {g : Array GenState} {d : Drawn} {t : Nat} {os : OsState}
variable {nm q : Str} {C N : Addr} {bs bm sub : List Value} {hdct ab : Bool} {sn : List Str} {col : Option Bool} {dd : Option Addr}
variable {k0 k1 k2 k3 k5 : Option Value}
/-- the bound __init__ is called -/
theorem call_mwV {u e t0 : Addr} {rest : List Value} {Q : Value → Shared → Prop}
    (hC : h.get? C = some (excClassObj nm q C N bs bm hdct sn sub ab col dd k0 k1 k2 k3 k5 "ValueError.__new__")) (he : h.get? e = some (excObj C t0 none .none)) (hu : h.get? u = some (kxs_mw "ValueError.__init__" e)) (hz : rest.length ≤ sizeLine)
    (hq : ∀ h' t1, (∀ b o, b ≠ e → h.get? b = some o → h'.get? b = some o) → h'.get? e = some (excObj C t1 none .none) → Q .none ⟨h', g, d, t, os⟩) :
    (wpAny (model prog w) A (call (.ref u) rest) Q E ⟨h, g, d, t, os⟩) := by
  (refine wpAny_call (codeAny_of_tree ?_))
  (show wpAny _ A.in1 (callAny (.ref u) ⟨rest, []⟩) _ _ _)
  simp only [callAny]
  (refine wpAny_bind (wpAny_load hu ?_))
  have y : (Value.type "method-wrapper" == Value.type "method" || Value.type "method-wrapper" == Value.type "builtin_function_or_method" || Value.type "method-wrapper" == Value.type "method-wrapper") = true := by decide
  simp only [kxs_mw, y, if_true]
  refine KFB.if_so (by decide) (wpAny_bind (check_bound_init F.excBase_ValueError.toExcCallFacts hC he rfl (wpAny_bind (wpAny_pure (wpAny_pure ?_)))))
  refine ⟨plainId_quiet F.excBase_ValueError.init.plain _, codeAny_builtin F.excBase_ValueError.initEntry ?_⟩
  exact exc_init_tree (cls := .ref C) (t0 := t0) (dv := none) (c2 := .none) (c3 := .none) (b4 := .bool false) he hz fun h' k e' _ => hq h' _ k e'
end

/-- what the written part says of the class at C, of its __init__ at fI, its cell cc and its code cda -/
structure SupC (P : Program) (K : PySem.W.Frag) (mg : Str → Option Value) (C cc cda : Addr) : Prop where
  ox : OexC K C
  su : ks_superIn K C C "__init__" = some (some (.builtin "ValueError.__init__"))
  mr : mroIn K C (.ref C) = some true
  sv : subIn K (.ref C) (.type "ValueError") = some true
  cell : ∃ cl cld csl, K.lookup cc = some ⟨cl, cld, .cell (some (.ref C)), csl⟩
  code : ∃ ccl cdd ccs vs file tf, K.lookup cda = some ⟨ccl, cdd, .fields vs, ccs⟩ ∧ vs[2]? = some (.str file tf) ∧ ((P.main.file : Str) == file) = true
  opq : nsIn K cStatics "thirdparty.any" = some none
  sup : mg "super" = none
  top : (P.main.scope.names.lookup ("super" : Str)).isSome = false

structure SupScope (ps : List Str) (sc : Scope) : Prop where
  kind : sc.kind = .function
  co : sc.isCoroutine = false
  gen : sc.isGenerator = false
  nd : ps.Nodup
  par : ∀ y ∈ ps, sc.names.lookup y = some .local
  nocell : ∀ q ∈ sc.names, q.2 ≠ .cell
  free : ∀ y, sc.names.lookup y = some .free → y = "__class__"
  sup : sc.names.lookup ("super" : Str) = some .globalImplicit
  cls : sc.names.lookup ("__class__" : Str) = some .free
  self : ps.head? = some "self"

/-- the context of such a body -/
def cxK (CX : CXT) (P : Program) (w : World) (K : PySem.W.Frag) (mg : Str → Option Value) (base : Heap) (ps : List Str) (qual : Str) (scope : Scope) (f cda cc : Addr) (A : Around) (outer : List Env) (s : Shared) (H : Hp) (E : XK) : Cx where
  prog := P
  w := w
  K := K
  mg := mg
  base := base
  A := A.deeper (ksEnv qual scope s.heap.objs.size f (.ref cda) cc)
  N := ps
  s_0 := s
  H_0 := H
  env := ksEnv qual scope s.heap.objs.size f (.ref cda) cc
  outer := outer
  stack := ksEnv qual scope s.heap.objs.size f (.ref cda) cc :: outer
  ex := []
  calm := true
  fn := fun _ => false
  pn := []
  xe := fun e s' => wpAny (model P w) (A.deeper (ksEnv qual scope s.heap.objs.size f (.ref cda) cc)) (leaving (ksEnv qual scope s.heap.objs.size f (.ref cda) cc) e) (fun _ s'' => CX outer H s E e s'') (fun e' s'' => CX outer H s E e' s'') s'

section
variable {CX : CXT} {P : Program} {w : World} {K : PySem.W.Frag} {mg : Str → Option Value} {base : Heap} {f C cc cda : Addr} {name qual : Str} {params : Arguments} {scope : Scope} {dV kV doc pm ct oc : Value} {an od : Option Addr} {osl : Array (Option Value)} {ps : List Str} {sp : Sp}

theorem lookup_cls {cc c : Addr} {x : Str} (h : List.lookup x [(("__class__" : Str), cc)] = some c) : x = "__class__" ∧ c = cc := by
  by_cases e : x = "__class__"
  · subst e
    refine ⟨rfl, ?_⟩
    have z : List.lookup ("__class__" : Str) [(("__class__" : Str), cc)] = some cc := by simp [List.lookup]
    rw [z] at h
    exact (Option.some.inj h).symm
  · have q : (x == ("__class__" : Str)) = false := by simpa using e
    simp [List.lookup, q] at h

theorem inv_startK (S : SupScope ps scope) (T : SupC P K mg C cc cda) {A : Around} {outer : List Env} {s : Shared} {H : Hp} {E : XK} {us : List Value} {vs : List V} {h1 : Heap} {tk : Nat}
    (hd : A.handled = none) (e0 : Env0 P w K mg base A outer s H) (hl : vs.length = ps.length) (r : Vals vs us)
    (hns : h1.Ns s.heap.objs.size (fun x => (ps.zip us).reverse.lookup x)) (hk : ∀ b o, s.heap.get? b = some o → h1.get? b = some o) :
    Inv (cxK CX P w K mg base ps qual scope f cda cc A outer s H E) [] (L2.start ps vs) H { s with heap := h1, toks := tk } := by
  have st0 : L2.start ps vs = vs.map some := by
    unfold L2.start
    rw [hl, Nat.sub_self]
    simp
  obtain ⟨cl, cld, csl, hcc⟩ := T.cell
  have ccb := e0.mod.kin _ _ hcc
  have noA : ∀ b : Addr, b ∉ (cxK CX P w K mg base ps qual scope f cda cc A outer s H E).ex := fun b z => absurd (show b ∈ ([] : List Addr) from z) (by simp)
  have ok : (cxK CX P w K mg base ps qual scope f cda cc A outer s H E).Ok := by
    refine ⟨e0.mod, S.kind, rfl, rfl, Nat.le_refl _, ?_, ?_, ?_, fun _ => hd, Around.frames_deeper e0.frames, .inr ⟨rfl, rfl⟩, fun b z => absurd z (noA b), e0.bs, e0.bsz, fun b _ _ => noA b, fun b z => absurd z (noA b), e0.funs, e0.frf⟩
    · intro x y c hx hy
      rw [(lookup_cls hx).1, (lookup_cls hy).1]
    · intro y hy
      have hy : scope.names.lookup y = some .cell ∨ scope.names.lookup y = some .free := hy
      rcases hy with hy | hy
      · (exact absurd rfl (S.nocell _ (PySem.mem_of_lookup hy)))
      · rw [S.free y hy]
        exact ⟨cc, by show List.lookup ("__class__" : Str) [(("__class__" : Str), cc)] = some cc; simp [List.lookup]⟩
    · intro x c z
      exact Bool.noConfusion (show false = true from z)
  refine ⟨ok, rfl, e0.bare, Un.kept hk, ⟨_, hns, ?_⟩, ?_, e0.hok.fresh (Nat.le_refl _), ?_, fun p hp => absurd (show p ∈ ([] : List (Addr × Obj)) from hp) (by simp), e0.hok.kept hk, ?_⟩
  · intro i x v h1 h2 h3
    rw [st0, List.getElem?_map] at h2
    cases e : vs[i]? with
    | none =>
      rw [e] at h2
      cases h2
    | some a =>
      rw [e] at h2
      cases h2
      obtain ⟨u, hu, rv⟩ := r.get e
      exact ⟨u, rv, .inl ⟨S.par x (List.mem_of_getElem? h1), rev_look S.nd h1 hu⟩⟩
  · intro x c e
    rw [(lookup_cls e).2]
    exact ⟨_, _, hk _ _ (e0.bs _ _ ccb).1, rfl⟩
  · intro x c e
    rw [(lookup_cls e).2]
    exact (e0.bs _ _ ccb).2
  · rw [st0, List.length_map]
    exact hl

/-- THE RULE: super().__init__(text), then the rest of the body by its reading -/
theorem fn_super {p0 p1 p2 p3 p4 : Pos} {m : Str} {kk : Nat} {kpos : Pos} {rest : List Stmt} {k : Nat}
    (lk : K.lookup f = some ⟨oc, od, .func (ksFn name qual params (.Expr (.Call (.Attribute (.Call (.Name "super" p0) [] [] p1) "__init__" p2) [.Constant (.str m) kk kpos] [] p3) p4 :: rest) scope dV kV doc pm an (.ref cda) ct cc), osl⟩)
    (hcd : codeIn K (.ref cda) qual = true) (S : SupScope ps scope) (T : SupC P K mg C cc cda) (hpar : ∃ ar, (params.posonlyargs ++ params.args).head? = some ar ∧ ar.arg = "self")
    (hev : ∀ L, ∃ pl : Sem Bool, eval (.Call (.Attribute (.Call (.Name "super" p0) [] [] p1) "__init__" p2) [.Constant (.str m) kk kpos] [] p3) (ksEnv qual scope L f (.ref cda) cc) = (do
      let ov ← attributeBase (.Call (.Name "super" p0) [] [] p1) "__init__" (ksEnv qual scope L f (.ref cda) cc) (eval (.Call (.Name "super" p0) [] [] p1) (ksEnv qual scope L f (.ref cda) cc))
      standAt p2.atName
      let (fn, first) ← holding [ov] (getMethod ov "__init__" pl)
      callWith p3 fn first (backTo p3 (starEach [.Constant (.str m) kk kpos] (ksEnv qual scope L f (.ref cda) cc))) []))
    (len : ∀ us H Q E, sp us H Q E → us.length = ps.length)
    (hbody : ∀ (A : Around) (outer : List Env) (s : Shared) (H : Hp) (vs : List V) (Q : VK) (E : XK), sp vs H Q E → ∃ a ws, vs = .ref a :: ws ∧ H a = some (exo a C none) ∧
      ∃ t, PSs (cxK CX P w K mg base ps qual scope f cda cc A outer s H E) rest t ∧ t { nx := fun _ H' => Q .non H', rt := Q } (L2.start ps vs) H) :
    FnOk P w K mg base CX (k + 1) f (ksFn name qual params (.Expr (.Call (.Attribute (.Call (.Name "super" p0) [] [] p1) "__init__" p2) [.Constant (.str m) kk kpos] [] p3) p4 :: rest) scope dV kV doc pm an (.ref cda) ct cc) ps sp := by
  obtain ⟨kd, nms, ig, ic, mr⟩ := scope
  obtain rfl : kd = .function := S.kind
  (refine ⟨len, fun A outer s H args us vs Q E hr e0 hb r hsp => ?_⟩)
  have hl := len _ _ _ _ hsp
  (have KX : K.In s.heap := e0.mod.kin.keeps fun b o e => (e0.bs b o e).1)
  (have lim : s.heap.NoLimit := e0.mod.nolimit.keeps fun b o e => (e0.bs b o e).1)
  refine ks_codeAny_call_defAt (binds := ps.zip us) hr.depth (KX _ _ lk) rfl lim (codeRec_of KX hcd) rfl hb S.nocell (fun y hy => S.par _ (List.of_mem_zip hy).1) (fun h1 hns hk => ?_) S.co S.gen S.kind
  have I : Inv (cxK CX P w K mg base ps qual ⟨.function, nms, ig, ic, mr⟩ f cda cc A outer s H E) [] (L2.start ps vs) H { s with heap := h1, toks := s.toks + (ps.zip us).length } := inv_startK S T hr.hd e0 hl r hns hk
  obtain ⟨a, ws, rfl, ha, t, ht, hq⟩ := hbody A outer s H vs Q E hsp
  obtain ⟨nm, qn, N, bs, bm, sn, sub, ab, col, dd, k0, k1, k2, k3, k5, hC, hbm⟩ := T.ox.cls
  obtain ⟨t0, hx⟩ := exo_at I.hok ha
  obtain ⟨cl, cld, csl, hcc⟩ := T.cell
  obtain ⟨ccl, cdd, ccs, cvs, file, tf, hco, hvs, hfile⟩ := T.code
  obtain ⟨ar, har, ha0⟩ := hpar
  have X1 : K.In h1 := I.kIn
  obtain ⟨pn, hpn⟩ : ∃ pn, ps = ("self" : Str) :: pn := by
    cases ps with
    | nil => cases S.self
    | cons p pn =>
      have e := S.self
      exact ⟨pn, by rw [show p = ("self" : Str) from Option.some.inj e]⟩
  obtain ⟨u0, us', rfl, ru0⟩ : ∃ u0 us', us = u0 :: us' ∧ u0 = Value.ref a := by
    cases r with
    | cons r0 rr => exact ⟨_, _, rfl, r0⟩
  subst ru0
  have hself : (ps.zip (Value.ref a :: us')).reverse.lookup ("self" : Str) = some (.ref a) := rev_look S.nd (i := 0) (by rw [hpn]; rfl) rfl
  have hcls : clsIn K C = some { name := nm, bases := bs, mro := .ref C :: bm, ns := N, qualname := qn, hasDict := true, slotNames := sn, subclasses := sub, abstract := ab, collection := col, hasDel := false } := by
    unfold clsIn
    rw [hC] <;> rfl
  have hob : ∀ {h2 : Heap}, h2.get? a = some ({ cls := .ref C, dict := none, data := .fields #[.ref t0, .none, .none, .none, .bool false, .none] } : Obj) → InstAt h2 a { cls := .ref C, dict := none, data := .fields #[.ref t0, .none, .none, .none, .bool false, .none] } C none := fun q => ⟨q, rfl, rfl, trivial⟩
  have hD : ∃ oD, h1.get? C = some oD ∧ oD.data = .cls { name := nm, bases := bs, mro := .ref C :: bm, ns := N, qualname := qn, hasDict := true, slotNames := sn, subclasses := sub, abstract := ab, collection := col, hasDel := false } := ⟨_, X1 _ _ hC, rfl⟩
  obtain ⟨oD, hD1, hD2⟩ := hD
  change _root_.PySem.wpAt (model P w) (A.deeper (ksEnv qual ⟨.function, nms, ig, ic, mr⟩ s.heap.objs.size f (.ref cda) cc)) (.func _ (ksEnv qual ⟨.function, nms, ig, ic, mr⟩ s.heap.objs.size f (.ref cda) cc)) (execs _ (ksEnv qual ⟨.function, nms, ig, ic, mr⟩ s.heap.objs.size f (.ref cda) cc)) _ _ _
  refine ks_wpAt_execs_cons ?_
  refine ks_wpAt_Expr_any ?_
  obtain ⟨pl, hpl⟩ := hev s.heap.objs.size
  refine ks_wpAt_MethodCall (pl := pl) ?_ hpl
  refine ks_wpAt_super_base (env := ksEnv qual ⟨.function, nms, ig, ic, mr⟩ s.heap.objs.size f (.ref cda) cc) S.sup S.cls (by decide) rfl (X1 _ _ lk) rfl har rfl (X1 _ _ hco) rfl hvs hfile T.top ?_
  obtain ⟨mb, hb1, hb2⟩ := I.mod.blt
  have hsup : mb "super" = some (.type "super") := (hb2 "super" (by decide)).trans (by decide +kernel)
  refine ks_loadName_global S.kind S.sup (Calls.loadGlobal_builtin (mg := mg) (mb := mb) (I.mod.glob.keeps I.bk) T.sup (hb1.keeps I.bk) hsup ⟨rfl, ?_⟩)
  refine wpAny_loadName_free S.kind S.cls (c := cc) (v := .ref C) (by show List.lookup ("__class__" : Str) [(("__class__" : Str), cc)] = some cc; simp [List.lookup]) ⟨_, X1 _ _ hcc, rfl⟩ ?_
  rw [ha0]
  refine wpAny_loadName_local S.kind (S.par "self" (by rw [hpn]; exact List.mem_cons_self)) hns hself ?_
  (refine ks_wpAny_isType_cls hD1 hD2 ⟨rfl, ?_⟩)
  refine ks_wpAny_call_super hD1 hD2 hx rfl (fun c e => by cases e) (looks_mroIn X1 T.mr) (fun h2 hso k2 => ?_)
  have X2 : K.In h2 := X1.keeps k2
  refine kxs_getMethod kxs_ValueError hso (looks_opaque X2 T.opq) (l₀ := .ref C :: bm) (fun A Q E s k q => wpAny_bind ((looks_clsIn X2 hcls) A _ E s k (wpAny_pure q))) rfl X2 ?_ ((hob (k2 _ _ hx)).type.andThen (looks_subIn X2 T.sv)) (ks_ne X1 (hob hx) hcls) (by decide) ?_
  · have e := T.su
    unfold ks_superIn at e
    rw [hcls] at e
    exact e
  have hkk : ∀ b o, h1.get? b = some o → (h2.push (kxs_mw "ValueError.__init__" a)).get? b = some o := fun b o e => Heap.get?_push_of_some _ (k2 b o e)
  have hmw : (h2.push (kxs_mw "ValueError.__init__" a)).get? h2.objs.size = some (kxs_mw "ValueError.__init__" a) := Heap.get?_push_at rfl rfl
  have hsz : h1.objs.size ≤ h2.objs.size := Nat.le_of_lt (Heap.lt_size hso)
  refine kxs_callWith (i := "ValueError.__init__") (u := h2.objs.size) (x := a) rfl (Calls.evalArgs_plain ?_)
  have I2 : Inv (cxK CX P w K mg base ps qual ⟨.function, nms, ig, ic, mr⟩ f cda cc A outer s H E) [(h2.objs.size, kxs_mw "ValueError.__init__" a)] (L2.start ps (V.ref a :: ws)) H { s with heap := h2.push (kxs_mw "ValueError.__init__" a), toks := s.toks + (ps.zip (Value.ref a :: us')).length + 1 } := by
    refine (I.kept (h' := h2.push (kxs_mw "ValueError.__init__" a)) (t' := s.toks + (ps.zip (Value.ref a :: us')).length + 1) hkk).pins_of fun p hp => ?_
    rw [List.mem_singleton.mp hp]
    have hf := I.fpOk (H' := H) (b := h2.objs.size) hsz (I.hok.fresh hsz)
    exact ⟨hmw, hf.1, hf.2.1, hf.2.2.1, fun v q => nomatch q⟩
  have PAe : PA (cxK CX P w K mg base ps qual ⟨.function, nms, ig, ic, mr⟩ f cda cc A outer s H E) [.Constant (.str m) kk kpos] (tCons (tC (.str m)) tNil) := pa_cons pe_str pa_nil
  refine thn (PAe.run p3 _ _ _ _ (fun vs H3 => vs = [V.str m] ∧ H3 = H) I2 ⟨rfl, rfl⟩) fun us3 s3 hh => ?_
  obtain ⟨vs3, H3, I3, r3, rfl, rfl⟩ := hh
  refine ⟨(I3.pin _ (List.mem_append_right _ List.mem_cons_self)).1, ?_⟩
  have len3 : us3.length ≤ sizeLine := by
    rw [← r3.length]
    show 1 ≤ sizeLine
    decide
  obtain ⟨t3, hx3⟩ := exo_at I3.hok ha
  have hu3 := (I3.pin _ (List.mem_append_right _ List.mem_cons_self)).1
  have hC3 := I3.kIn _ _ hC
  obtain ⟨hp3, g3, d3, tk3, os3⟩ := s3
  show wpAny _ _ (call (.ref h2.objs.size) us3) _ _ _
  refine call_mwV hC3 hx3 hu3 len3 fun h4 t4 k4 hx4 => ?_
  have J := I3.unpinned (pins := []) (pl := [(h2.objs.size, kxs_mw "ValueError.__init__" a)])
  have J2 := J.write (t' := tk3) (x := a) (e := a) (o := exo a C none) (by rw [ha]; exact True.intro) (.inl rfl) k4 ⟨_, hx4⟩ (exo_ok hx4)
  have eu : upd H3 a (exo a C none) = H3 := by
    funext b
    by_cases hb : b = a
    · rw [hb, upd_same, ha]
    · rw [upd_ne hb]
  rw [eu] at J2
  refine wpAt_of_wpAny (wpAny_mono (ht.run [] _ _ _ _ J2 hq) (fun fl s' hs => ?_) fun e s' hs => hs)
  cases fl with
  | ret u =>
    obtain ⟨v, σ', H', J', rv, q⟩ := hs
    exact ⟨v, H', J'.os, J'.bare, J'.base, J'.hok, rv, q⟩
  | next =>
    obtain ⟨σ', H', J', q⟩ := hs
    exact ⟨V.non, H', J'.os, J'.bare, J'.base, J'.hok, rfl, q⟩
  | brk =>
    obtain ⟨_, _, _, q⟩ := hs
    exact False.elim q
  | cont =>
    obtain ⟨_, _, _, q⟩ := hs
    exact False.elim q
end
end TY

/-! a def that is called in an except suite with the caught exception; isinstance and fields of it, in any context that bears it -/
namespace TY
open PySem PyProof.Rows PySem.Spec L2 L2H

/-- p's object is the exception that is handled -/
def HotP (A : Around) (p : Addr × Obj) : Prop := A.handled = some (.ref p.1)
/-- the promise of a def there: p is the exception -/
structure FnE (P : Program) (w : World) (K : PySem.W.Frag) (mg : Str → Option Value) (base : Heap) (k : Nat) (f : Addr) (fd : FuncData) (ps : List Str) (p : Addr × Obj) (sp : Sp) : Prop where
  len : ∀ us H Q E, sp us H Q E → us.length = ps.length
  run : ∀ (A : Around) (outer : List Env) (s : Shared) (H : Hp) (args : Args) (us : List Value) (vs : List V) (Q : VK) (E : XK), RoomH k A → HotP A p → PinOk outer H s p → Env0 P w K mg base A outer s H →
    BindsTo s fd args (ps.zip us) → Vals vs us → sp vs H Q E → codeAny (model P w) A (.call (.ref f) args) (CR CX0 outer P w H s Q E) s

theorem ok_def {P : Program} {w : World} {K : PySem.W.Frag} {mg : Str → Option Value} {base : Heap} {k : Nat} {f : Addr} {x qual : Str} {st : Stmt} {fd : FuncData} {N ps : List Str} {p : Addr × Obj} {sp : Sp} (F : Fun K x qual st f fd) (S : FnScope N ps (defScope st))
    (len : ∀ us H Q E, sp us H Q E → us.length = ps.length)
    (hbody : ∀ (cdv : Value) (A : Around) (outer : List Env) (s : Shared) (H : Hp) (vs : List V) (Q : VK) (E : XK), RoomH k (A.deeper (envOfC qual (defScope st) s.heap.objs.size f cdv)) → sp vs H Q E →
      ∃ t, PSs (cxH CX0 P w K mg base N qual (defScope st) f cdv A outer s H E p) (defBody st) t ∧ t { nx := fun _ H' => Q .non H', rt := Q } (L2.start N vs) H) :
    FnE P w K mg base (k + 1) f fd ps p sp := by
  (obtain ⟨oc, od, kV, doc, pm, an, cdv, ct, osl, rfl, lk, hcd⟩ := F.ex)
  refine ⟨len, fun A outer s H args us vs Q E hr hot hpin e0 hb r hsp => ?_⟩
  (have KX : K.In s.heap := e0.mod.kin.keeps fun b o e => (e0.bs b o e).1)
  (have lim : s.heap.NoLimit := e0.mod.nolimit.keeps fun b o e => (e0.bs b o e).1)
  have kinds : ∀ y ∈ ps.zip us, (defScope st).names.lookup y.1 = some .local ∨ ((defScope st).names.lookup y.1 = some .cell ∧ ((cellsFrom (s.heap.objs.size + 1) (defScope st).names []).lookup y.1).isSome = true) := by
    rintro ⟨n, v⟩ hy
    (rcases S.par n (List.of_mem_zip hy).1 with q | q)
    · exact .inl q
    · (exact .inr ⟨q, PySem.W.cellsFrom_some _ _ _ (.inl q)⟩)
  refine codeAny_call_function hr.depth (KX _ _ lk) rfl S.co S.gen rfl (PySem.W.codeRec_of KX hcd) (hb _ _ _ _ (wpAny_newFunctionEnv_cells S.kind kinds fun env he s1 y => ?_))
  subst he
  refine ⟨lim.keeps y.toInCall.keep, codeAny_func ?_⟩
  obtain ⟨t, ht, hq⟩ := hbody cdv A outer s H vs Q E (hr.deeper _) hsp
  have I := inv_startH (CX := CX0) (E := E) S hpin e0 (len _ _ _ _ hsp) r y
  (refine wpAny_mono (ht.run [] s1 (L2.start N vs) H _ I hq) (fun fl s' hs => ?_) fun e s' hs => hs)
  cases fl with
  | ret u =>
    (obtain ⟨v, σ', H', J, rv, q⟩ := hs)
    exact ⟨v, H', J.os, J.bare, J.base, J.hok, rv, q⟩
  | next =>
    obtain ⟨σ', H', J, q⟩ := hs
    exact ⟨V.non, H', J.os, J.bare, J.base, J.hok, rfl, q⟩
  | brk =>
    obtain ⟨_, _, _, q⟩ := hs
    exact False.elim q
  | cont =>
    obtain ⟨_, _, _, q⟩ := hs
    exact False.elim q

section
variable {X : Cx} {k : Nat} {f : Addr} {fd : FuncData} {ps : List Str} {sp : Sp} {x : Str} {q pos : Pos} {e : Expr} {es : List Expr} {t : TA} {p : Addr × Obj}
def tCallE (sp : Sp) (t : TA) : TE := fun σ H Q => t σ H fun vs H1 => sp vs H1 Q E0
theorem pe_callE (F : FnE X.prog X.w X.K X.mg X.base k f fd ps p sp) (hr : RoomH k X.A) (hot : HotP X.A p) (hp : p ∈ X.pn) (hg : Gl X x) (hm : X.mg x = some (.ref f)) (hk : PySem.W.keepIn X.K (.ref f) = true) (hb : Binds X.K fd ps [])
    (ha : PA X (e :: es) t) (hdb : (x == ("__debug__" : Str)) = false := by decide)
    (he : starEach (e :: es) X.env = (false, eval e X.env) :: starEach es X.env := by rfl)
    (hpl : (backTo pos (starEach es X.env)).any (·.1) = false := by rfl) :
    PE X (.Call (.Name x q) (e :: es) [] pos) (tCallE sp t) := by
  refine ⟨fun pins s σ H Q I h => wpAny_Call_Name_kw (ld_glob I hg hm (PySem.W.callWith_K (h₀ := X.base) I.ok.mod.kin hk (thn (ha.run pos pins s σ H _ I h) fun us s1 hh => ?_) he hpl) hdb)⟩
  obtain ⟨vs, H1, I1, r, z⟩ := hh
  refine ⟨I1.kIn, ?_⟩
  have hl : us.length = ps.length := by rw [← r.length]; exact F.len _ _ _ _ z
  have b := hb s1 us I1.kIn (by rw [List.append_nil]; exact hl)
  rw [List.append_nil] at b
  have P1 := I1.pin p (List.mem_append_left _ hp)
  have hpin : PinOk X.stack H1 s1 p := ⟨P1.1, P1.2.1, fun hm => (List.mem_cons.mp (I1.stkSub p.1 hm)).elim P1.2.2.1 P1.2.2.2.1, P1.2.2.2.2⟩
  (show wpAny _ _ (call (.ref f) us) _ _ _)
  refine wpAny_call (codeAny_mono (F.run X.A X.stack s1 H1 ⟨us, []⟩ us vs Q E0 hr hot hpin I1.env0 b r z) fun r s' hq => ?_)
  cases r with
  | error _ => exact False.elim hq
  | ok fl =>
    cases fl with
    | ret u => exact I1.after hq
    | next => exact False.elim hq
    | brk => exact False.elim hq
    | cont => exact False.elim hq
end

theorem roomE {k : Nat} {A : Around} (r : Room k A) (h : Option Value) : RoomH k (A.mark h) := ⟨r.dp, r.un⟩

/-- isinstance(e, c), e the caught exception at a, cls its class, d its dict -/
def rIsP (K : PySem.W.Frag) (a : Addr) (cls : Value) (d : Option Addr) : List V → Hp → VK → Prop := fun xs H Q => ∃ (D : Addr) (c : V) (cv : Value) (b : Bool), cls = .ref D ∧ ExcC K D ∧ xs = [.ref a, c] ∧ (∀ u, RelV c u → u = cv) ∧
  PySem.W.kitOne K (.ref D) cv = some b ∧ (∀ dd, d = some dd → ∃ fs, H dd = some (.xd fs)) ∧ Q (.bl b) H
theorem call_isP {X : Cx} {a : Addr} {oe : Obj} {cls : Value} {d : Option Addr} (hp : (a, oe) ∈ X.pn) (hz : Zc cls d oe) (hf : ∃ vs, oe.data = .fields vs) : CallR X (.builtin "isinstance") (rIsP X.K a cls d) := by
  (intro pins s σ H xs us Q I r h)
  obtain ⟨D, c, cv, b, rfl, C, rfl, hcv, e, hd, q⟩ := h
  cases r with
  | cons rx rr =>
    cases rr with
    | cons rt rr =>
      cases rr
      cases rx
      obtain rfl := hcv _ rt
      obtain ⟨hget, _⟩ := I.pin (a, oe) (List.mem_append_left _ hp)
      obtain ⟨vs, hv⟩ := hf
      have J : ∃ od, PySem.W.InstAt s.heap a oe D od := by
        have n0 : PySem.W.notCls oe = true := by
          unfold PySem.W.notCls
          rw [hv] <;> rfl
        cases d with
        | none => exact ⟨none, hget, hz.1, n0, by rw [hz.2]; trivial⟩
        | some dd =>
          obtain ⟨fs, hfs⟩ := hd dd rfl
          have hx : ObjOk X.prog X.w H s.heap dd (.xd fs) := I.hok dd _ hfs
          obtain ⟨mA, hns, _⟩ := hx
          obtain ⟨od, ho, _⟩ := lookIn_ns hns
          exact ⟨some od, hget, hz.1, n0, by rw [hz.2]; exact ho⟩
      obtain ⟨od, J⟩ := J
      have hcl : (PySem.W.clsIn X.K D).isSome = true := by
        obtain ⟨cd, hc, _⟩ := PySem.W.any_some C.hd
        rw [hc]
        rfl
      exact PySem.W.kia_one (PySem.W.kitx_exc hcl C.hg C.hk C.hs C.ha C.hn C.ht C.hm) I.kIn J e (fun z => nomatch z) fun tk => ⟨.bl b, H, I.kept (t' := tk) fun _ _ z => z, rfl, q⟩

/-- e.f -/
def tXp (K : PySem.W.Frag) (a : Addr) (cls : Value) (d : Option Addr) (f : Str) (te : TE) : TE := fun σ H Q => te σ H fun x H1 => ∃ C : Addr, x = .ref a ∧ cls = .ref C ∧ XfC K C ∧ PySem.W.findIn K (.ref C) f = some none ∧
  ∃ (dd : Addr) (fs : List (Str × V)) (v : V), d = some dd ∧ H1 dd = some (.xd fs) ∧ fs.lookup f = some v ∧ Q v H1
theorem pe_xp {X : Cx} {a : Addr} {oe : Obj} {cls : Value} {d : Option Addr} {e : Expr} {te : TE} {pos : Pos} {n : Str} (hp : (a, oe) ∈ X.pn) (hz : Zc cls d oe) (hf : ∃ vs, oe.data = .fields vs) (he : PE X e te)
    (hb : attributeBase e n X.env (eval e X.env) = eval e X.env := by rfl) : PE X (.Attribute e n pos) (tXp X.K a cls d n te) := by
  refine ⟨fun pins s σ H Q I h => attr_of hb (thn (he.run pins s σ H _ I h) fun u s1 hh => ?_)⟩
  obtain ⟨x, H1, I1, rx, C, ex, ec, T, hno, dd, fs, v, ed, ea, l, q⟩ := hh
  subst ex ec ed
  (obtain rfl : u = Value.ref a := rx)
  obtain ⟨ha, _⟩ := I1.pin (a, oe) (List.mem_append_left _ hp)
  obtain ⟨vs, hd⟩ := hf
  (have hx : ObjOk X.prog X.w H1 s1.heap dd (.xd fs) := I1.hok dd _ ea)
  obtain ⟨mA, hns, hr⟩ := hx
  (obtain ⟨od, ho, hl⟩ := lookIn_ns hns)
  (obtain ⟨u, hu, ru⟩ := RelO.some_of (v := v) (o := mA n) (by rw [← l]; exact hr n))
  have n0 : PySem.W.notCls oe = true := by
    unfold PySem.W.notCls
    rw [hd] <;> rfl
  have J : PySem.W.InstAt s1.heap a oe C (some od) := ⟨ha, hz.1, n0, by rw [hz.2]; exact ho⟩
  (exact HandSPX.exc_get I1.kIn J T.ga T.gg T.exC (PySem.W.findObj_own T.hdC hno rfl (by rw [hl, hu])) (handed_of ru) ⟨v, H1, I1.tok _, ru, q⟩)
end TY

/-! reading a term from the left, step by step: one lemma a reading, and the word that tries them -/
namespace TY
open PySem PyProof.Rows PySem.Spec L2

/-- a text by its codes -/
def st (l : List Nat) : Str := ⟨l.toArray⟩
abbrev S (l : List Nat) : V := V.str (st l)
theorem st_inj {l m : List Nat} (h : st l = st m) : l = m := by
  have e := congrArg (fun z : Str => z.cps.toList) h
  simpa [st] using e
theorem S_inj {l m : List Nat} (h : S l = S m) : l = m := st_inj (V.str.inj h)
theorem st_eq {l m : List Nat} : (st l = st m) = (l = m) := propext ⟨st_inj, fun h => by rw [h]⟩
theorem st_len (l : List Nat) : (st l).length = l.length := by
  show l.toArray.size = l.length
  simp
theorem st_app (l m : List Nat) : st l ++ st m = st (l ++ m) := by
  show (⟨l.toArray ++ m.toArray⟩ : Str) = st (l ++ m)
  simp [st]
theorem st_cps (l : List Nat) : (st l).cps.toList = l := by simp [st]
theorem st_one (c : Nat) : (⟨#[c]⟩ : Str) = st [c] := rfl
theorem st_of (z : Str) : z = st z.cps.toList := by cases z; simp [st]

/-! ### text * int -/
def strRep (n : Nat) (z : Str) : Str := ⟨(List.replicate n z.cps).foldl (· ++ ·) #[]⟩
theorem fold_app {a : Array Nat} : ∀ (n : Nat) (acc : Array Nat), ((List.replicate n a).foldl (· ++ ·) acc).toList = acc.toList ++ (List.replicate n a.toList).flatten
  | 0, acc => by simp
  | n + 1, acc => by
    rw [List.replicate_succ, List.foldl_cons, fold_app n (acc ++ a), List.replicate_succ]
    simp
theorem strRep_st (n : Nat) (l : List Nat) : strRep n (st l) = st (List.replicate n l).flatten := by
  have e := fold_app (a := (st l).cps) n #[]
  rw [st_cps] at e
  unfold strRep
  rw [st_of ⟨_⟩]
  refine congrArg st ?_
  show Array.toList _ = _
  rw [e]
  simp
theorem strRep_len (n : Nat) (z : Str) : (strRep n z).length = n * z.length := by
  have e := congrArg List.length (fold_app (a := z.cps) n #[])
  show ((List.replicate n z.cps).foldl (· ++ ·) #[]).size = n * z.cps.size
  rw [Array.length_toList] at e
  rw [e]
  simp
theorem op_rep_str {X : Cx} : OpR X (binaryOp .Mult) (fun x y H Q => ∃ (z : Str) (n : Int), x = .str z ∧ y = .int n ∧ 2 ≤ n ∧ n ≤ 100 ∧ 1 ≤ z.length ∧ z.length ≤ 100 ∧ Q (.str (strRep n.toNat z)) H) := by
  (intro pins s σ H x y v u Q I rx ry h)
  obtain ⟨z, n, rfl, rfl, n2, n1, z1, z2, q⟩ := h
  obtain ⟨t, rfl⟩ := rx
  obtain ⟨t', rfl⟩ := ry
  have hn : ¬ n < 1 := by omega
  have hm : (n == 1 || z.length == 0) = false := by
    have a1 : (n == 1) = false := by
      rw [beq_eq_false_iff_ne]
      omega
    have a2 : (z.length == 0) = false := by
      rw [beq_eq_false_iff_ne]
      omega
    rw [a1, a2] <;> rfl
  have hbig : z.length * n.toNat ≤ 10000 := by
    have h1 : n.toNat ≤ 100 := by omega
    exact Nat.mul_le_mul z2 h1
  refine PySem.P.mul_str ?_ (fun _ _ => ?_) (fun _ _ => ?_) ?_
  · have a1 : decide (n < -(2 ^ 63 : Int)) = false := decide_eq_false (by omega)
    have a2 : decide (n ≥ 2 ^ 63) = false := decide_eq_false (by omega)
    rw [a1, a2] <;> rfl
  · have e : (2 ^ 63 - 1 : Int) / n ≥ 100 := by
      refine Int.le_ediv_of_mul_le (by omega) ?_
      omega
    omega
  · unfold Builtin.Str.tooLong
    simp only [decide_eq_false_iff_not, sizeLine_eq]
    omega
  · rw [if_neg hn, if_neg (by rw [hm]; decide)]
    refine ⟨?_, ⟨.str (strRep n.toNat z), H, I.tok _, ⟨_, rfl⟩, q⟩⟩
    show (strRep n.toNat z).length ≤ sizeLine
    rw [strRep_len, sizeLine_eq, Nat.mul_comm]
    omega

theorem lift {H : Hp} {p a : Addr} {o u : HO} (hp : H p = none) (h : H a = some u) : (upd H p o) a = some u := by
  rw [upd_ne (ne_of_none h hp)]
  exact h
theorem liftL {K : PySem.W.Frag} {H : Hp} {p a : Addr} {o : HO} {xs : List V} (hp : H p = none) (h : SqL K H a xs) : SqL K (upd H p o) a xs := by
  rcases h with (h | ⟨u, h⟩) | h
  · exact .inl (.inl (lift hp h))
  · exact .inl (.inr ⟨u, lift hp h⟩)
  · exact .inr h
/-! ### heaps: what stands as it stood -/
def Ex (H J : Hp) : Prop := ∀ (x : Addr) (u : HO), H x = some u → J x = some u
theorem Ex.refl (J : Hp) : Ex J J := fun _ _ q => q
theorem Ex.trans {H J L : Hp} (e : Ex H J) (f : Ex J L) : Ex H L := fun x u q => f x u (e x u q)
theorem Ex.new {H H' : Hp} {p : Addr} {o : HO} (e : Ex H H') (h : H' p = none) : Ex H (upd H' p o) := fun a u q => by
  rw [upd_ne (ne_of_none (e a u q) h)]
  exact e a u q
theorem Ex.mut {H J : Hp} {p : Addr} {o : HO} (e : Ex H J) (h : H p = none) : Ex H (upd J p o) := fun a u ha => by
  rw [upd_ne (ne_of_none ha h)]
  exact e a u ha
theorem Ex.back {H H' : Hp} {p : Addr} (e : Ex H H') (h : H' p = none) : H p = none := by
  cases h1 : H p with
  | none => rfl
  | some o =>
    rw [e p o h1] at h
    cases h
theorem Ex.sqL {K : PySem.W.Frag} {H H' : Hp} {a : Addr} {xs : List V} (e : Ex H H') (h : SqL K H a xs) : SqL K H' a xs := by
  (rcases h with (h | ⟨o, h⟩) | h)
  · exact .inl (.inl (e _ _ h))
  · (exact .inl (.inr ⟨o, e _ _ h⟩))
  · exact .inr h
/-- .. but at p -/
def ExB (p : Addr) (H H' : Hp) : Prop := ∀ a o, a ≠ p → H a = some o → H' a = some o
theorem ExB.refl (p : Addr) (H : Hp) : ExB p H H := fun _ _ _ h => h
theorem ExB.trans {p : Addr} {H H1 H2 : Hp} (a : ExB p H H1) (b : ExB p H1 H2) : ExB p H H2 := fun x o n h => b x o n (a x o n h)
theorem Ex.b {p : Addr} {H H' : Hp} (e : Ex H H') : ExB p H H' := fun x o _ h => e x o h
theorem ExB.at {p : Addr} {H : Hp} {o : HO} : ExB p H (upd H p o) := fun a u n h => by rw [upd_ne n]; exact h


/-! ### lemmas, one a reading -/
section
variable {K : PySem.W.Frag} {σ : L2.St} {H : Hp} {D : Ends} {t u : TS} {ta tb te : TE} {tt tt2 : TT} {g : TG} {v x y : V} {Q : VK} {i j : Int} {n m : Nat}
theorem x_start {N : List Str} {vs : List V} (e : L2.start N vs = σ) (h : t D σ H) : t D (L2.start N vs) H := by rw [e]; exact h
theorem x_seq (h : t { D with nx := u D } σ H) : tSeq t u D σ H := h
theorem x_next (h : D.nx σ H) : tNext D σ H := h
theorem x_asg (h : te σ H fun x H1 => g x σ H1 D.nx) : tAsg te g D σ H := h
theorem x_drop (h : te σ H fun _ H1 => D.nx σ H1) : tDrop te D σ H := h
theorem x_ret (h : te σ H D.rt) : tRet te D σ H := h
theorem x_ifS (h : tt σ H fun b H1 => if b = true then t D σ H1 else u D σ H1) : tIfS tt t u D σ H := h
theorem x_ifE (h : tt σ H fun b H1 => if b = true then ta σ H1 Q else tb σ H1 Q) : tIf tt ta tb σ H Q := h
theorem x_gname {R : L2.St → Hp → Prop} (h : R (σ.set n (some v)) H) : gName n v σ H R := h
theorem x_var (e : σ[n]? = some (some v)) (h : Q v H) : tVar n σ H Q := ⟨v, e, h⟩
theorem x_c (h : Q v H) : tC v σ H Q := h
theorem x_cStr {z : Str} {l : List Nat} (e : z = st l) (h : Q (S l) H) : tC (.str z) σ H Q := by rw [e]; exact h
theorem x_op {r : R2} (h : ta σ H fun x H1 => tb σ H1 fun y H2 => r x y H2 Q) : tOp r ta tb σ H Q := h
theorem x_un {r : V → Hp → VK → Prop} (h : ta σ H fun x H1 => r x H1 Q) : tUn r ta σ H Q := h
theorem x_I0 {f : Int → Int → V} (h : Q (f i j) H) : rI0 f (.int i) (.int j) H Q := ⟨i, j, rfl, rfl, h⟩
theorem x_I {C : Int → Int → Prop} {f : Int → Int → V} (c : C i j) (h : Q (f i j) H) : rI C f (.int i) (.int j) H Q := ⟨i, j, rfl, rfl, c, h⟩
theorem x_U {f : Int → V} (h : Q (f i) H) : rU f (.int i) H Q := ⟨i, rfl, h⟩
theorem x_eqI (h : Q (.bl (decide (i = j))) H) : rEq (.int i) (.int j) H Q := by
  refine ⟨rfl, ?_⟩
  have e : decide (V.int i = V.int j) = decide (i = j) := by simp
  rw [e]
  exact h
theorem x_neI (h : Q (.bl (!decide (i = j))) H) : rNe (.int i) (.int j) H Q := by
  refine ⟨rfl, ?_⟩
  have e : decide (V.int i = V.int j) = decide (i = j) := by simp
  rw [e]
  exact h
theorem x_eqS {a b : Str} (h : Q (.bl (decide (a = b))) H) : rEq (.str a) (.str b) H Q := by
  refine ⟨rfl, ?_⟩
  have e : decide (V.str a = V.str b) = decide (a = b) := by simp
  rw [e]
  exact h
theorem x_neS {a b : Str} (h : Q (.bl (!decide (a = b))) H) : rNe (.str a) (.str b) H Q := by
  refine ⟨rfl, ?_⟩
  have e : decide (V.str a = V.str b) = decide (a = b) := by simp
  rw [e]
  exact h
theorem x_eqSt {a b : List Nat} (h : Q (.bl (decide (a = b))) H) : rEq (S a) (S b) H Q := by
  refine x_eqS ?_
  have e : decide (st a = st b) = decide (a = b) := by simp [st_eq]
  rw [e]
  exact h
theorem x_neSt {a b : List Nat} (h : Q (.bl (!decide (a = b))) H) : rNe (S a) (S b) H Q := by
  refine x_neS ?_
  have e : decide (st a = st b) = decide (a = b) := by simp [st_eq]
  rw [e]
  exact h
theorem x_eqOne {a b : Nat} (h : Q (.bl (decide (a = b))) H) : rEq (S [a]) (S [b]) H Q := by
  refine x_eqSt ?_
  have e : decide ([a] = [b]) = decide (a = b) := by simp
  rw [e]
  exact h
theorem x_test (h : te σ H fun x H' => ∃ k, x = .bl k ∧ R k H') : tTest te σ H R := h
theorem x_tB (h : te σ H fun x H' => ∃ k, x = .bl k ∧ R k H') : tB te σ H R := h
theorem x_bl {k : Bool} {R : Bool → Hp → Prop} (h : R k H) : ∃ k', V.bl k = .bl k' ∧ R k' H := ⟨k, rfl, h⟩
theorem x_bl2 {k : Bool} {R : Bool → Prop} (h : R k) : ∃ k', V.bl k = .bl k' ∧ R k' := ⟨k, rfl, h⟩
theorem x_yes {R : Bool → Hp → Prop} (h : R true H) : tYes σ H R := h
theorem x_and (h : tt σ H fun c H1 => if c = true then tt2 σ H1 R else R false H1) : tAnd tt tt2 σ H R := h
theorem x_or (h : tt σ H fun c H1 => if c = true then R true H1 else tt2 σ H1 R) : tOr tt tt2 σ H R := h
theorem x_not (h : tt σ H fun c H1 => R (!c) H1) : tNot tt σ H R := h
theorem x_andV (h : ta σ H fun x H1 => ∃ c, x = .bl c ∧ if c = true then tb σ H1 Q else Q (.bl false) H1) : tAndV ta tb σ H Q := h
theorem x_orV (h : ta σ H fun x H1 => ∃ c, x = .bl c ∧ if c = true then Q (.bl true) H1 else tb σ H1 Q) : tOrV ta tb σ H Q := h
theorem x_notV (h : ta σ H fun x H1 => ∃ c, x = .bl c ∧ Q (.bl (!c)) H1) : tNotV ta σ H Q := h
theorem x_nil {R : List V → Hp → Prop} (h : R [] H) : tNil σ H R := h
theorem x_cons {tr : TA} {R : List V → Hp → Prop} (h : ta σ H fun x H1 => tr σ H1 fun xs H2 => R (x :: xs) H2) : tCons ta tr σ H R := h
theorem x_cb {r : List V → Hp → VK → Prop} {t : TA} (h : t σ H fun vs H1 => r vs H1 Q) : tCB r t σ H Q := h
def qNewT : List V → Hp → VK → Prop := fun xs H Q => xs.length ≤ sizeLine ∧ ∀ p, H p = none → Q (.ref p) (upd H p (.tup xs))
def qNewL : List V → Hp → VK → Prop := fun xs H Q => xs.length ≤ sizeLine ∧ ∀ p, H p = none → Q (.ref p) (upd H p (.lst xs))
theorem x_tup {t : TA} (h : t σ H fun xs H1 => qNewT xs H1 Q) : tTup t σ H Q := h
theorem x_lst {t : TA} (h : t σ H fun xs H1 => qNewL xs H1 Q) : tLst t σ H Q := h
theorem x_newT {xs : List V} (hz : xs.length ≤ 1000000) (h : ∀ p, H p = none → Q (.ref p) (upd H p (.tup xs))) : qNewT xs H Q := ⟨Nat.le_trans hz (by decide), h⟩
theorem x_newL {xs : List V} (hz : xs.length ≤ 1000000) (h : ∀ p, H p = none → Q (.ref p) (upd H p (.lst xs))) : qNewL xs H Q := ⟨Nat.le_trans hz (by decide), h⟩
theorem x_call {sp : Sp} {dvs : List V} {E : XK} {t : TA} (h : t σ H fun vs H1 => sp (vs ++ dvs) H1 Q E) : tCall sp dvs E t σ H Q := h
theorem x_callS {sp : Sp} {E : L2.St → XK} {t : TA} (h : t σ H fun vs H1 => sp vs H1 Q (E σ)) : tCallS sp E t σ H Q := h
theorem x_callE {sp : Sp} {t : TA} (h : t σ H fun vs H1 => sp vs H1 Q E0) : tCallE sp t σ H Q := h
theorem x_aug {ti : TIp} (e : σ[n]? = some (some x)) (h : te σ H fun y H1 => ti x y H1 fun z H2 => D.nx (σ.set n (some z)) H2) : tAug n te ti D σ H := ⟨x, e, h⟩
theorem x_ipI {f : Int → Int → Int} (h : Q (.int (f i j)) H) : ipI f (.int i) (.int j) H Q := ⟨i, j, rfl, rfl, h⟩
theorem x_sl {r : V → Option Int → Option Int → Hp → VK → Prop} {tl th : TO} (h : te σ H fun x H1 => tl σ H1 fun l H2 => th σ H2 fun u H3 => r x l u H3 Q) : tSl r te tl th σ H Q := h
theorem x_nopart {R : Option Int → Hp → Prop} (h : R none H) : tNoPart σ H R := h
theorem x_part {R : Option Int → Hp → Prop} (h : te σ H fun x H1 => ∃ i, x = .int i ∧ R (some i) H1) : tPart te σ H R := h
theorem x_int {R : Int → Prop} (h : R i) : ∃ k, V.int i = .int k ∧ R k := ⟨i, rfl, h⟩
theorem x_gsub {to ti : TE} {ts : TSet} {R : L2.St → Hp → Prop} (h : to σ H fun o H1 => ti σ H1 fun i H2 => ts o i v H2 fun H3 => R σ H3) : gSub to ti ts v σ H R := h
theorem x_bm {T : String} {r : V → List V → Hp → VK → Prop} {to : TE} {t : TA} (h : to σ H fun x H1 => tyV K T x H1 ∧ t σ H1 fun xs H2 => r x xs H2 Q) : tBM K T r to t σ H Q := h
theorem x_bm0 {T : String} {r : V → List V → Hp → VK → Prop} {to : TE} (h : to σ H fun x H1 => tyV K T x H1 ∧ r x [] H1 Q) : tBM0 K T r to σ H Q := h
theorem x_m0 {r : V → List V → Hp → VK → Prop} {to : TE} (h : to σ H fun x H1 => (∃ a, x = .str a) ∧ r x [] H1 Q) : tM0 r to σ H Q := h
theorem x_m1 {r : V → List V → Hp → VK → Prop} {to : TE} (h : to σ H fun x H1 => (∃ a, x = .str a) ∧ te σ H1 fun y H2 => r x [y] H2 Q) : tM1 r to te σ H Q := h
theorem x_augS {to ti : TE} {tget : V → V → Hp → VK → Prop} {tip : TIp} {tset : TSet} (h : to σ H fun o H1 => ti σ H1 fun i H2 => tget o i H2 fun x H3 => te σ H3 fun y H4 => tip x y H4 fun z H5 => tset o i z H5 fun H6 => D.nx σ H6) :
    tAugS to ti te tget tip tset D σ H := h
/-! the fields of the ends -/
theorem x_Dnx {a d e : L2.St → Hp → Prop} {b : VK} (h : a σ H) : Ends.nx ⟨a, b, d, e⟩ σ H := h
theorem x_Drt {a d e : L2.St → Hp → Prop} {b : VK} (h : b v H) : Ends.rt ⟨a, b, d, e⟩ v H := h
/-! heaps -/
theorem x_ixL {p : Addr} {xs : List V} (hp : SqL K H p xs) (ha : atI xs i = some v) (h : Q v H) : rIxL K (.ref p) (.int i) H Q := ⟨p, xs, i, v, rfl, rfl, hp, ha, h⟩
theorem x_ixT {p : Addr} {xs : List V} (hp : SqT K H p xs) (ha : atI xs i = some v) (h : Q v H) : rIxT K (.ref p) (.int i) H Q := ⟨p, xs, i, v, rfl, rfl, hp, ha, h⟩
theorem x_setL {p : Addr} {xs : List V} {k : Nat} {R : Hp → Prop} (hp : H p = some (.lst xs)) (hk : ixN xs.length i = some k) (h : R (upd H p (.lst (xs.set k v)))) : rSetL (.ref p) (.int i) v H R := ⟨p, xs, i, k, rfl, rfl, hp, hk, h⟩
theorem x_append {p : Addr} {xs : List V} (hp : H p = some (.lst xs)) (hz : xs.length < sizeLine) (h : Q .non (upd H p (.lst (xs ++ [v])))) : rAppend (.ref p) [v] H Q := ⟨p, xs, v, rfl, rfl, hp, hz, h⟩
theorem x_pop {p : Addr} {xs : List V} (hp : H p = some (.lst xs)) (hz : xs[xs.length - 1]? = some v) (h : Q v (upd H p (.lst xs.dropLast))) : rPop (.ref p) [] H Q := ⟨p, xs, v, rfl, rfl, hp, hz, h⟩
theorem x_tyL {p : Addr} {xs : List V} {R : Prop} (hp : SqL K H p xs) (h : R) : tyV K "list" (.ref p) H ∧ R := ⟨.inl ⟨rfl, xs, hp⟩, h⟩
theorem x_slL {p : Addr} {xs : List V} {lo hi : Option Int} (hp : SqL K H p xs) (h : ∀ q, H q = none → Q (.ref q) (upd H q (.lst (cutV xs lo hi)))) : rSlL K (.ref p) lo hi H Q := ⟨p, xs, rfl, hp, h⟩
theorem x_cat {p q : Addr} {xs zs : List V} (hp : H p = some (.lst xs)) (hq : H q = some (.lst zs)) (hz : xs.length + zs.length ≤ 1000000) (h : ∀ r, H r = none → Q (.ref r) (upd H r (.lst (xs ++ zs)))) : rCat (.ref p) (.ref q) H Q :=
  ⟨p, q, xs, zs, rfl, rfl, hp, hq, Nat.le_trans hz (by decide), h⟩
/-! the same, the heap behind it a letter -/
theorem x_newLg {xs : List V} (hz : xs.length ≤ 1000000) (h : ∀ p H', H p = none → Ex H H' → H' p = some (.lst xs) → Q (.ref p) H') : qNewL xs H Q := x_newL hz fun p hp => h p _ hp ((Ex.refl H).new hp) upd_same
theorem x_newTg {xs : List V} (hz : xs.length ≤ 1000000) (h : ∀ p H', H p = none → Ex H H' → H' p = some (.tup xs) → Q (.ref p) H') : qNewT xs H Q := x_newT hz fun p hp => h p _ hp ((Ex.refl H).new hp) upd_same
theorem x_catg {p q : Addr} {xs zs : List V} (hp : H p = some (.lst xs)) (hq : H q = some (.lst zs)) (hz : xs.length + zs.length ≤ 1000000) (h : ∀ r H', H r = none → Ex H H' → H' r = some (.lst (xs ++ zs)) → Q (.ref r) H') : rCat (.ref p) (.ref q) H Q :=
  x_cat hp hq hz fun r hr => h r _ hr ((Ex.refl H).new hr) upd_same
theorem x_slLg {p : Addr} {xs : List V} {lo hi : Option Int} (hp : SqL K H p xs) (h : ∀ q H', H q = none → Ex H H' → H' q = some (.lst (cutV xs lo hi)) → Q (.ref q) H') : rSlL K (.ref p) lo hi H Q :=
  ⟨p, xs, rfl, hp, fun q hq => h q _ hq ((Ex.refl H).new hq) upd_same⟩
theorem x_setLg {p : Addr} {xs : List V} {k : Nat} {R : Hp → Prop} (hp : H p = some (.lst xs)) (hk : ixN xs.length i = some k) (h : ∀ H', H' p = some (.lst (xs.set k v)) → (∀ a, a ≠ p → H' a = H a) → R H') : rSetL (.ref p) (.int i) v H R :=
  ⟨p, xs, i, k, rfl, rfl, hp, hk, h _ upd_same fun a n => upd_ne n⟩
theorem x_appendg {p : Addr} {xs : List V} (hp : H p = some (.lst xs)) (hz : xs.length < sizeLine) (h : ∀ H', H' p = some (.lst (xs ++ [v])) → (∀ a, a ≠ p → H' a = H a) → Q .non H') : rAppend (.ref p) [v] H Q :=
  ⟨p, xs, v, rfl, rfl, hp, hz, h _ upd_same fun a n => upd_ne n⟩
/-- a slice of a list of codes -/
def cutN (l : List Nat) (lo hi : Option Int) : List Nat := (l.drop (HT.sIx l.length 0 lo)).take (HT.sIx l.length l.length hi - HT.sIx l.length 0 lo)
theorem x_slS {l : List Nat} {lo hi : Option Int} (hl : l.length ≤ 1000000) (h : Q (S (cutN l lo hi)) H) : rSlS (S l) lo hi H Q := by
  refine ⟨st l, rfl, by rw [st_len]; exact Nat.le_trans hl (by decide), ?_⟩
  have e : cutS (st l) lo hi = st (cutN l lo hi) := by
    unfold cutS cutN
    rw [st_cps, st_len]
    rfl
  rw [e]
  exact h
theorem x_ixS {l : List Nat} {c : Nat} (hl : l.length ≤ 1000000) (ha : atI l i = some c) (h : Q (S [c]) H) : rIxS (S l) (.int i) H Q :=
  ⟨st l, i, c, rfl, rfl, by rw [st_len]; exact Nat.le_trans hl (by decide), by rw [st_cps]; exact ha, h⟩
theorem cutV_init (xs : List V) : cutV xs none (some (-1)) = xs.dropLast := by
  unfold cutV
  rw [HT.sIx_none]
  have e : HT.sIx xs.length xs.length (some (-1)) = xs.length - 1 := by
    show (if (-1 : Int) < 0 then (-1 + (xs.length : Int)).toNat else min (-1 : Int).toNat xs.length) = _
    rw [if_pos (by omega)]
    omega
  rw [e, List.dropLast_eq_take]
  simp
/-! built-ins by their own words: the reading named, then the step -/
def qLen (K : PySem.W.Frag) : List V → Hp → VK → Prop := fun xs H Q => ∃ p ys, xs = [.ref p] ∧ (SqL K H p ys ∨ SqT K H p ys) ∧ Q (.int ys.length) H
theorem l_len {t : TA} (h : t σ H fun vs H1 => qLen K vs H1 Q) : tCB (fun xs H Q => ∃ p ys, xs = [.ref p] ∧ (SqL K H p ys ∨ SqT K H p ys) ∧ Q (.int ys.length) H) t σ H Q := h
theorem x_lenL {p : Addr} {ys : List V} (hp : SqL K H p ys) (h : Q (.int ys.length) H) : qLen K [.ref p] H Q := ⟨p, ys, rfl, .inl hp, h⟩
theorem x_lenT {p : Addr} {ys : List V} (hp : SqT K H p ys) (h : Q (.int ys.length) H) : qLen K [.ref p] H Q := ⟨p, ys, rfl, .inr hp, h⟩
def qLenS : List V → Hp → VK → Prop := fun xs H Q => ∃ z, xs = [.str z] ∧ z.length ≤ sizeLine ∧ Q (.int z.length) H
theorem l_lenS {t : TA} (h : t σ H fun vs H1 => qLenS vs H1 Q) : tCB (fun xs H Q => ∃ z, xs = [.str z] ∧ z.length ≤ sizeLine ∧ Q (.int z.length) H) t σ H Q := h
theorem x_lenS {l : List Nat} (hl : l.length ≤ 1000000) (h : Q (.int (l.length : Nat)) H) : qLenS [S l] H Q :=
  ⟨st l, rfl, by rw [st_len]; exact Nat.le_trans hl (by decide), by rw [st_len]; exact h⟩
def qInt1 : List V → Hp → VK → Prop := fun xs H Q => (∃ i, xs = [.int i] ∧ Q (.int i) H) ∨ ∃ k, xs = [.bl k] ∧ Q (.int (if k then 1 else 0)) H
theorem l_int1 {t : TA} (h : t σ H fun vs H1 => qInt1 vs H1 Q) : tCB (fun xs H Q => (∃ i, xs = [.int i] ∧ Q (.int i) H) ∨ ∃ k, xs = [.bl k] ∧ Q (.int (if k then 1 else 0)) H) t σ H Q := h
theorem x_int1 (h : Q (.int i) H) : qInt1 [.int i] H Q := .inl ⟨i, rfl, h⟩
def qAbs : List V → Hp → VK → Prop := fun xs H Q => ∃ i, xs = [.int i] ∧ Q (.int (if i < 0 then -i else i)) H
theorem l_abs {t : TA} (h : t σ H fun vs H1 => qAbs vs H1 Q) : tCB (fun xs H Q => ∃ i, xs = [.int i] ∧ Q (.int (if i < 0 then -i else i)) H) t σ H Q := h
theorem x_abs (h : Q (.int (if i < 0 then -i else i)) H) : qAbs [.int i] H Q := ⟨i, rfl, h⟩
def qMax2 : List V → Hp → VK → Prop := fun xs H Q => ∃ i j, xs = [.int i, .int j] ∧ Q (.int (if j > i then j else i)) H
theorem l_max2 {t : TA} (h : t σ H fun vs H1 => qMax2 vs H1 Q) : tCB (fun xs H Q => ∃ i j, xs = [.int i, .int j] ∧ Q (.int (if j > i then j else i)) H) t σ H Q := h
theorem x_max2 (h : Q (.int (max i j)) H) : qMax2 [.int i, .int j] H Q := by
  refine ⟨i, j, rfl, ?_⟩
  have e : (if j > i then j else i) = max i j := by split <;> omega
  rw [e]
  exact h
def qMin2 : List V → Hp → VK → Prop := fun xs H Q => ∃ i j, xs = [.int i, .int j] ∧ Q (.int (if j < i then j else i)) H
theorem l_min2 {t : TA} (h : t σ H fun vs H1 => qMin2 vs H1 Q) : tCB (fun xs H Q => ∃ i j, xs = [.int i, .int j] ∧ Q (.int (if j < i then j else i)) H) t σ H Q := h
theorem x_min2 (h : Q (.int (min i j)) H) : qMin2 [.int i, .int j] H Q := by
  refine ⟨i, j, rfl, ?_⟩
  have e : (if j < i then j else i) = min i j := by split <;> omega
  rw [e]
  exact h
def qList (K : PySem.W.Frag) : List V → Hp → VK → Prop := fun xs H Q => ∃ p ys, xs = [.ref p] ∧ (SqL K H p ys ∨ SqT K H p ys) ∧ ∀ l, H l = none → Q (.ref l) (upd H l (.lst ys))
theorem l_list {t : TA} (h : t σ H fun vs H1 => qList K vs H1 Q) : tCB (fun xs H Q => ∃ p ys, xs = [.ref p] ∧ (SqL K H p ys ∨ SqT K H p ys) ∧ ∀ l, H l = none → Q (.ref l) (upd H l (.lst ys))) t σ H Q := h
theorem x_listL {p : Addr} {ys : List V} (hp : SqL K H p ys) (h : ∀ l, H l = none → Q (.ref l) (upd H l (.lst ys))) : qList K [.ref p] H Q := ⟨p, ys, rfl, .inl hp, h⟩
def qAddS : R2 := fun x y H Q => ∃ i j, x = .str i ∧ y = .str j ∧ i.length + j.length ≤ sizeLine ∧ Q (.str (i ++ j)) H
theorem l_addS (h : tOp qAddS ta tb σ H Q) : tOp (fun x y H Q => ∃ i j, x = .str i ∧ y = .str j ∧ i.length + j.length ≤ sizeLine ∧ Q (.str (i ++ j)) H) ta tb σ H Q := h
theorem x_addS {a b : List Nat} (hl : a.length + b.length ≤ 1000000) (h : Q (S (a ++ b)) H) : qAddS (S a) (S b) H Q :=
  ⟨st a, st b, rfl, rfl, by rw [st_len, st_len]; exact Nat.le_trans hl (by decide), by rw [st_app]; exact h⟩
def qInSign : R2 := fun x y H Q => ∃ (c : Nat) (z : Str), x = .str ⟨#[c]⟩ ∧ y = .str z ∧ Q (.bl (decide (c ∈ z.cps.toList))) H
theorem l_inSign (h : tOp qInSign ta tb σ H Q) : tOp (fun x y H Q => ∃ (c : Nat) (z : Str), x = .str ⟨#[c]⟩ ∧ y = .str z ∧ Q (.bl (decide (c ∈ z.cps.toList))) H) ta tb σ H Q := h
theorem x_inSign {c : Nat} {l : List Nat} (h : Q (.bl (decide (c ∈ l))) H) : qInSign (S [c]) (S l) H Q := ⟨c, st l, rfl, rfl, by rw [st_cps]; exact h⟩
def qNiSign : R2 := fun x y H Q => ∃ (c : Nat) (z : Str), x = .str ⟨#[c]⟩ ∧ y = .str z ∧ Q (.bl (!decide (c ∈ z.cps.toList))) H
theorem l_niSign (h : tOp qNiSign ta tb σ H Q) : tOp (fun x y H Q => ∃ (c : Nat) (z : Str), x = .str ⟨#[c]⟩ ∧ y = .str z ∧ Q (.bl (!decide (c ∈ z.cps.toList))) H) ta tb σ H Q := h
theorem x_niSign {c : Nat} {l : List Nat} (h : Q (.bl (!decide (c ∈ l))) H) : qNiSign (S [c]) (S l) H Q := ⟨c, st l, rfl, rfl, by rw [st_cps]; exact h⟩
def qRepS : R2 := fun x y H Q => ∃ (z : Str) (n : Int), x = .str z ∧ y = .int n ∧ 2 ≤ n ∧ n ≤ 100 ∧ 1 ≤ z.length ∧ z.length ≤ 100 ∧ Q (.str (strRep n.toNat z)) H
theorem l_repS (h : tOp qRepS ta tb σ H Q) : tOp (fun x y H Q => ∃ (z : Str) (n : Int), x = .str z ∧ y = .int n ∧ 2 ≤ n ∧ n ≤ 100 ∧ 1 ≤ z.length ∧ z.length ≤ 100 ∧ Q (.str (strRep n.toNat z)) H) ta tb σ H Q := h
def qLeS : R2 := fun x y H Q => ∃ i j, x = .str i ∧ y = .str j ∧ Q (.bl (!decide (j.cps.toList < i.cps.toList))) H
theorem l_leS (h : tOp qLeS ta tb σ H Q) : tOp (fun x y H Q => ∃ i j, x = .str i ∧ y = .str j ∧ Q (.bl (!decide (j.cps.toList < i.cps.toList))) H) ta tb σ H Q := h
theorem x_leS {a b : List Nat} (h : Q (.bl (!decide (b < a))) H) : qLeS (S a) (S b) H Q := ⟨st a, st b, rfl, rfl, by rw [st_cps, st_cps]; exact h⟩
def qIsN : R2 := fun x y H Q => y = .non ∧ Q (.bl (decide (x = .non))) H
theorem l_isN (h : tOp qIsN ta tb σ H Q) : tOp (fun x y H Q => y = .non ∧ Q (.bl (decide (x = .non))) H) ta tb σ H Q := h
theorem x_isN (h : Q (.bl (decide (x = .non))) H) : qIsN x .non H Q := ⟨rfl, h⟩
def qNotN : R2 := fun x y H Q => y = .non ∧ Q (.bl (!decide (x = .non))) H
theorem l_notN (h : tOp qNotN ta tb σ H Q) : tOp (fun x y H Q => y = .non ∧ Q (.bl (!decide (x = .non))) H) ta tb σ H Q := h
theorem x_notN (h : Q (.bl (!decide (x = .non))) H) : qNotN x .non H Q := ⟨rfl, h⟩
def qUpper : V → List V → Hp → VK → Prop := fun x xs H Q => ∃ a, x = .str a ∧ xs = [] ∧ a.length ≤ 5592405 ∧ Q (.str (Txt.upper a)) H
theorem l_upper {to : TE} (h : tM0 qUpper to σ H Q) : tM0 (fun x xs H Q => ∃ a, x = .str a ∧ xs = [] ∧ a.length ≤ 5592405 ∧ Q (.str (Txt.upper a)) H) to σ H Q := h
def qJoin (K : PySem.W.Frag) : V → List V → Hp → VK → Prop := fun x xs H Q => ∃ a p, ∃ ys : List Str, x = .str a ∧ xs = [.ref p] ∧ (SqL K H p (ys.map V.str) ∨ SqT K H p (ys.map V.str)) ∧
  (ys.map (·.length)).sum + ys.length * a.length ≤ 16777216 ∧ Q (.str (Txt.join a ys)) H
theorem l_join {to : TE} (h : tM1 (qJoin K) to te σ H Q) : tM1 (fun x xs H Q => ∃ a p, ∃ ys : List Str, x = .str a ∧ xs = [.ref p] ∧ (SqL K H p (ys.map V.str) ∨ SqT K H p (ys.map V.str)) ∧
  (ys.map (·.length)).sum + ys.length * a.length ≤ 16777216 ∧ Q (.str (Txt.join a ys)) H) to te σ H Q := h
theorem joinL_nil : ∀ ys : List (List Nat), TL.joinL [] ys = ys.flatten
  | [] => rfl
  | [p] => by simp [TL.joinL]
  | p :: q :: r => by
    have ih := joinL_nil (q :: r)
    show p ++ ([] ++ TL.joinL [] (q :: r)) = _
    rw [ih]
    simp
theorem join_st (ys : List (List Nat)) : Txt.join (st []) (ys.map st) = st ys.flatten := by
  rw [TL.join_eq]
  have e := TL.tl_join (st []) (ys.map st)
  have h1 : (ys.map st).map TL.tl = ys := by
    rw [List.map_map]
    have : (TL.tl ∘ st) = id := by
      funext l
      exact st_cps l
    rw [this, List.map_id]
  rw [h1, show TL.tl (st []) = [] from rfl, joinL_nil] at e
  rw [st_of (Str.join (st []) (ys.map st))]
  exact congrArg st e
theorem x_join0 {p : Addr} {ys : List (List Nat)} (hp : SqL K H p (ys.map S)) (hz : ys.flatten.length ≤ 1000000) (h : Q (S ys.flatten) H) : qJoin K (S []) [.ref p] H Q := by
  refine ⟨st [], p, ys.map st, rfl, rfl, .inl ?_, ?_, ?_⟩
  · rw [List.map_map]
    exact hp
  · have e1 : ((ys.map st).map (·.length)).sum = ys.flatten.length := by
      rw [List.length_flatten, List.map_map]
      refine congrArg List.sum ?_
      refine List.map_congr_left fun l _ => ?_
      exact st_len l
    rw [e1, st_len, List.length_nil, Nat.mul_zero]
    omega
  · rw [join_st]
    exact h
theorem ixN_nat {n j : Nat} (hj : j < n) : ixN n ((j : Nat) : Int) = some j := by
  unfold ixN
  (rw [if_pos (by omega), if_pos (by omega)])
  simp
theorem x_strA {R : Prop} {a : Str} (h : R) : (∃ b, V.str a = .str b) ∧ R := ⟨⟨a, rfl⟩, h⟩
/-! tests -/
theorem x_iteD {p : Prop} [Decidable p] {A B : Prop} (h1 : p → A) (h2 : ¬ p → B) : if decide p = true then A else B := by
  by_cases h : p
  · rw [if_pos (decide_eq_true h)]
    exact h1 h
  · rw [if_neg (by simpa using h)]
    exact h2 h
theorem x_iteN {p : Prop} [Decidable p] {A B : Prop} (h1 : ¬ p → A) (h2 : p → B) : if (!decide p) = true then A else B := by
  by_cases h : p
  · rw [if_neg (by simpa using h)]
    exact h2 h
  · rw [if_pos (by simpa using h)]
    exact h1 h
theorem x_iteB {b : Bool} {A B : Prop} (h1 : b = true → A) (h2 : b = false → B) : if b = true then A else B := by
  cases b
  · exact h2 rfl
  · exact h1 rfl
theorem x_iteDT {p : Prop} [Decidable p] {A B : Prop} (h : p) (a : A) : if decide p = true then A else B := x_iteD (fun _ => a) fun n => absurd h n
theorem x_iteDF {p : Prop} [Decidable p] {A B : Prop} (h : ¬ p) (b : B) : if decide p = true then A else B := x_iteD (fun n => absurd n h) fun _ => b
theorem x_iteNT {p : Prop} [Decidable p] {A B : Prop} (h : ¬ p) (a : A) : if (!decide p) = true then A else B := x_iteN (fun _ => a) fun n => absurd n h
theorem x_iteNF {p : Prop} [Decidable p] {A B : Prop} (h : p) (b : B) : if (!decide p) = true then A else B := x_iteN (fun n => absurd h n) fun _ => b
theorem x_iteT {A B : Prop} (a : A) : if true = true then A else B := by rw [if_pos rfl]; exact a
theorem x_iteF {A B : Prop} (b : B) : if false = true then A else B := by rw [if_neg Bool.false_ne_true]; exact b
theorem x_iteNT' {A B : Prop} (a : A) : if (!false) = true then A else B := x_iteT a
theorem x_iteNF' {A B : Prop} (b : B) : if (!true) = true then A else B := x_iteF b
end

end TY

/-! loops and comprehensions by the items that are left -/
namespace TY
open PySem PyProof.Rows PySem.Spec L2

def qLc (J : It) (g : TG) (tt : TT) (te : TE) (vs : List Nat) : TE := tLc (fun _ H R => R J H) g tt te vs
def qFor (J : It) (g : TG) (tb : TS) : TS := tFor (fun _ H R => R J H) g tb
section
variable {K : PySem.W.Frag} {σ : L2.St} {H : Hp} {D : Ends} {tb : TS} {te ta : TE} {tt : TT} {g : TG} {vs : List Nat} {Q : VK} {wi : TI} {R : It → Hp → Prop} {i j : Int}
theorem x_lc (h : wi σ H fun J H1 => qLc J g tt te vs σ H1 Q) : tLc wi g tt te vs σ H Q := h
theorem x_for (h : wi σ H fun J H1 => qFor J g tb D σ H1) : tFor wi g tb D σ H := h
def qStr : V → Hp → (It → Hp → Prop) → Prop := fun v H R => ∃ x, v = .str x ∧ R (Its x) H
theorem x_iStr (h : te σ H fun v H1 => qStr v H1 R) : iStr te σ H R := h
theorem x_qStr {l : List Nat} (h : R (Its (st l)) H) : qStr (S l) H R := ⟨st l, rfl, h⟩
def qLst (K : PySem.W.Frag) : V → Hp → (It → Hp → Prop) → Prop := fun v H R => ∃ a, v = .ref a ∧ (∃ xs, SqL K H a xs) ∧ R (Itl K a) H
theorem x_iLst (h : te σ H fun v H1 => qLst K v H1 R) : iList K te σ H R := h
theorem x_qLst {p : Addr} {xs : List V} (hp : SqL K H p xs) (h : R (Itl K p) H) : qLst K (.ref p) H R := ⟨p, rfl, ⟨xs, hp⟩, h⟩
def qRng1 : List V → Hp → (It → Hp → Prop) → Prop := fun vs H R => ∃ j : Int, vs = [.int j] ∧ -(2 ^ 62) ≤ j ∧ j < 2 ^ 62 ∧ R (Itr 0 j.toNat) H
theorem x_iRng1 {ta : TA} (h : ta σ H fun vs H1 => qRng1 vs H1 R) : iRng1 ta σ H R := h
theorem x_qRng1 (hj : -1000000 ≤ j ∧ j ≤ 1000000) (h : R (Itr 0 j.toNat) H) : qRng1 [.int j] H R := ⟨j, rfl, by omega, by omega, h⟩
def qRng2 : List V → Hp → (It → Hp → Prop) → Prop := fun vs H R => ∃ i j : Int, vs = [.int i, .int j] ∧ (-(2 ^ 62) ≤ i ∧ i < 2 ^ 62 ∧ -(2 ^ 62) ≤ j ∧ j < 2 ^ 62) ∧ R (Itr i (j - i).toNat) H
theorem x_iRng2 {ta : TA} (h : ta σ H fun vs H1 => qRng2 vs H1 R) : iRng2 ta σ H R := h
theorem x_qRng2 (hj : (-1000000 ≤ i ∧ i ≤ 1000000) ∧ -1000000 ≤ j ∧ j ≤ 1000000) (h : R (Itr i (j - i).toNat) H) : qRng2 [.int i, .int j] H R := ⟨i, j, rfl, ⟨by omega, by omega, by omega, by omega⟩, h⟩
def qEnS : List V → Hp → (It → Hp → Prop) → Prop := fun vs H R => ∃ z, vs = [V.str z] ∧ R (IteS z) H
theorem x_iEnS {ta : TA} (h : ta σ H fun vs H1 => qEnS vs H1 R) : iEnumS ta σ H R := h
theorem x_qEnS {l : List Nat} (h : R (IteS (st l)) H) : qEnS [S l] H R := ⟨st l, rfl, h⟩
end

theorem take_drop_cons {α : Type} {l : List α} {i : Nat} {a : α} (h : l[i]? = some a) : l.drop i = a :: l.drop (i + 1) := by
  (obtain ⟨hi, e⟩ := List.getElem?_eq_some_iff.mp h)
  rw [← e]
  exact List.drop_eq_getElem_cons hi
theorem pre_of {α : Type} {l : List α} {i : Nat} {a : α} (h : l[i]? = some a) : l = l.take i ++ a :: l.drop (i + 1) := by
  rw [← take_drop_cons h]
  exact (List.take_append_drop i l).symm

/-! ### for -/
section
variable {α : Type} {J : It} {G : Hp → Prop} {Y : Nat → Hp → V → Hp → Prop} {σ : L2.St} {H : Hp} {D : Ends} {tb : TS} {g : TG}
/-- a for: Pv by what is gone, what is left -/
theorem go_for {l : List α} {enc : α → V} {j : Nat} (w : Walk J l.length G Y) (hY : ∀ i H x H', Y i H x H' → H' = H ∧ ∃ a, l[i]? = some a ∧ x = enc a) (Pv : List α → List α → L2.St → Hp → Prop)
    (h0 : Pv [] l σ H) (hG : ∀ p r σ H, Pv p r σ H → G H)
    (hs : ∀ p a r σ H, l = p ++ a :: r → Pv p (a :: r) σ H → tb { D with nx := Pv (p ++ [a]) r, ct := Pv (p ++ [a]) r, bk := D.nx } (σ.set j (some (enc a))) H)
    (hd : ∀ σ H, Pv l [] σ H → D.nx σ H) : qFor J (gName j) tb D σ H := by
  refine for_it w (fun i σ H => Pv (l.take i) (l.drop i) σ H) h0 (fun i σ H _ h => hG _ _ _ _ h) (fun i x σ H H' hi hp hy => ?_) (fun σ H hp => ?_)
  · obtain ⟨rfl, a, ha, rfl⟩ := hY _ _ _ _ hy
    have e1 := take_drop_cons ha
    rw [e1] at hp
    have q := hs (l.take i) a (l.drop (i + 1)) σ H' (pre_of ha) hp
    have e2 : l.take (i + 1) = l.take i ++ [a] := by
      rw [List.take_add_one, ha]
      rfl
    rw [← e2] at q
    exact q
  · refine hd σ H ?_
    rw [List.take_length, List.drop_length] at hp
    exact hp
theorem for_S {l : List Nat} {j : Nat} (Pv : List Nat → List Nat → L2.St → Hp → Prop) (h0 : Pv [] l σ H)
    (hs : ∀ p c r σ H, l = p ++ c :: r → Pv p (c :: r) σ H → tb { D with nx := Pv (p ++ [c]) r, ct := Pv (p ++ [c]) r, bk := D.nx } (σ.set j (some (S [c]))) H)
    (hd : ∀ σ H, Pv l [] σ H → D.nx σ H) : qFor (Its (st l)) (gName j) tb D σ H := by
  have e : (st l).cps.size = l.length := by simp [st]
  have w := walk_str (z := st l)
  rw [e] at w
  refine go_for (enc := fun c => S [c]) w (fun i H x H' hy => ?_) Pv h0 (fun _ _ _ _ _ => trivial) hs hd
  obtain ⟨e1, c, hc, e2⟩ := hy
  exact ⟨e1, c, by simpa [st] using hc, e2⟩
theorem for_L {K : PySem.W.Frag} {p : Addr} {l : List α} {enc : α → V} {j : Nat} (Pv : List α → List α → L2.St → Hp → Prop) (h0 : Pv [] l σ H) (hG : ∀ q r σ H, Pv q r σ H → SqL K H p (l.map enc))
    (hs : ∀ q a r σ H, l = q ++ a :: r → Pv q (a :: r) σ H → tb { D with nx := Pv (q ++ [a]) r, ct := Pv (q ++ [a]) r, bk := D.nx } (σ.set j (some (enc a))) H)
    (hd : ∀ σ H, Pv l [] σ H → D.nx σ H) : qFor (Itl K p) (gName j) tb D σ H := by
  have w := walk_list (K := K) (a := p) (xs := l.map enc)
  rw [List.length_map] at w
  refine go_for (l := l) (enc := enc) w (fun i H x H' hy => ?_) Pv h0 hG hs hd
  obtain ⟨e1, hx⟩ := hy
  rw [List.getElem?_map] at hx
  cases q : l[i]? with
  | none => rw [q] at hx; cases hx
  | some a => rw [q] at hx; exact ⟨e1, a, rfl, (Option.some.inj hx).symm⟩
/-- over a range: by the turn -/
theorem for_R {lo : Int} {n j : Nat} (Pv : Nat → L2.St → Hp → Prop) (h0 : Pv 0 σ H)
    (hs : ∀ i σ H, i < n → Pv i σ H → tb { D with nx := Pv (i + 1), ct := Pv (i + 1), bk := D.nx } (σ.set j (some (.int (lo + (i : Nat))))) H)
    (hd : ∀ σ H, Pv n σ H → D.nx σ H) : qFor (Itr lo n) (gName j) tb D σ H := by
  refine for_it (walk_range (lo := lo) (n := n)) Pv h0 (fun _ _ _ _ _ => trivial) (fun i x σ H H' hi hp hy => ?_) hd
  obtain ⟨rfl, rfl⟩ := hy
  exact hs i σ H' hi hp
theorem for_EnS {K : PySem.W.Frag} {l : List Nat} {i1 i2 : Nat} (Pv : List Nat → List Nat → L2.St → Hp → Prop) (h0 : Pv [] l σ H)
    (hs : ∀ p c r σ H T, l = p ++ c :: r → Pv p (c :: r) σ H → H T = none → tb { D with nx := Pv (p ++ [c]) r, ct := Pv (p ++ [c]) r, bk := D.nx } ((σ.set i1 (some (.int (p.length : Nat)))).set i2 (some (S [c]))) (upd H T (.tup [.int (p.length : Nat), S [c]])))
    (hd : ∀ σ H, Pv l [] σ H → D.nx σ H) : qFor (IteS (st l)) (gTup K 2 (gCons (gName i1) (gCons (gName i2) gNil))) tb D σ H := by
  have e : (st l).cps.size = l.length := by simp [st]
  have w := walk_enumS (z := st l)
  rw [e] at w
  refine for_it w (fun i σ H => Pv (l.take i) (l.drop i) σ H) h0 (fun _ _ _ _ _ => trivial) (fun i x σ H H' hi hp hy => ?_) (fun σ H hp => ?_)
  · obtain ⟨T, c, rfl, hT, hc, rfl⟩ := hy
    have ha : l[i]? = some c := by simpa [st] using hc
    rw [take_drop_cons ha] at hp
    have q := hs (l.take i) c (l.drop (i + 1)) σ H T (pre_of ha) hp hT
    have e2 : l.take (i + 1) = l.take i ++ [c] := by
      rw [List.take_add_one, ha]
      rfl
    have e3 : (l.take i).length = i := by rw [List.length_take]; omega
    rw [← e2, e3] at q
    exact ⟨T, _, rfl, .inl (.inl upd_same), rfl, _, _, rfl, _, _, rfl, rfl, q⟩
  · rw [List.take_length, List.drop_length] at hp
    exact hd σ H hp
end

/-! ### comprehensions that change nothing -/
section
variable {α : Type} {J : It} {G : Hp → Prop} {Y : Nat → Hp → V → Hp → Prop} {σ : L2.St} {H : Hp} {tt : TT} {te : TE} {Q : VK} {vs : List Nat}
theorem go_lc {l : List α} {enc : α → V} {j : Nat} (f : α → Bool) (v : α → V) (w : Walk J l.length G Y) (hY : ∀ i H x H', i < l.length → Y i H x H' → H' = H ∧ ∃ a, l[i]? = some a ∧ x = enc a) (hG : ∀ H1, Ex H H1 → G H1) (hz : l.length ≤ 1000000)
    (hw : ∀ x, wipe ((wipe σ vs).set j (some x)) vs = wipe σ vs)
    (ht : ∀ p a r H1, l = p ++ a :: r → Ex H H1 → ∀ R : Bool → Hp → Prop, (∀ H2, Ex H1 H2 → R (f a) H2) → tt ((wipe σ vs).set j (some (enc a))) H1 R)
    (he : ∀ p a r H1, l = p ++ a :: r → Ex H H1 → f a = true → ∀ R : VK, (∀ H2, Ex H1 H2 → R (v a) H2) → te ((wipe σ vs).set j (some (enc a))) H1 R)
    (hq : ∀ p H1, H p = none → Ex H H1 → H1 p = some (.lst ((l.filter f).map v)) → Q (.ref p) H1) : qLc J (gName j) tt te vs σ H Q := by
  intro L hL
  refine lc_it w (fun i H1 => Ex H H1 ∧ H1 L = some (.lst (((l.take i).filter f).map v))) ⟨Ex.mut (Ex.refl H) hL, upd_same⟩ (fun i H1 _ hp => hG H1 hp.1) (fun i x H1 H2 hi hp hy => ?_) (fun H1 hp => ?_)
  · obtain ⟨rfl, a, ha, rfl⟩ := hY _ _ _ _ hi hy
    refine ⟨hw _, ?_⟩
    have e2 : l.take (i + 1) = l.take i ++ [a] := by
      rw [List.take_add_one, ha]
      rfl
    refine ht (l.take i) a (l.drop (i + 1)) H2 (pre_of ha) hp.1 _ fun H3 e3 => ?_
    cases hf : f a with
    | true =>
      rw [if_pos rfl]
      refine he (l.take i) a (l.drop (i + 1)) H3 (pre_of ha) (hp.1.trans e3) hf _ fun H4 e4 => ?_
      refine ⟨_, e4 _ _ (e3 _ _ hp.2), ?_, Ex.mut ((hp.1.trans e3).trans e4) hL, ?_⟩
      · have h1 := List.length_filter_le f (l.take i)
        (rw [List.length_map, sizeLine_eq])
        rw [List.length_take] at h1
        omega
      · rw [upd_same, e2, List.filter_append, List.map_append, List.filter_cons, if_pos hf]
        rfl
    | false =>
      rw [if_neg (by decide)]
      refine ⟨hp.1.trans e3, ?_⟩
      rw [e3 _ _ hp.2, e2, List.filter_append, List.map_append, List.filter_cons, if_neg (by rw [hf]; decide)]
      simp
  · have h2 := hp.2
    rw [List.take_length] at h2
    exact hq L H1 hL hp.1 h2
theorem lc_S {l : List Nat} {j : Nat} (f : Nat → Bool) (v : Nat → V) (hz : l.length ≤ 1000000)
    (hw : ∀ x, wipe ((wipe σ vs).set j (some x)) vs = wipe σ vs)
    (ht : ∀ p c r H1, l = p ++ c :: r → Ex H H1 → ∀ R : Bool → Hp → Prop, (∀ H2, Ex H1 H2 → R (f c) H2) → tt ((wipe σ vs).set j (some (S [c]))) H1 R)
    (he : ∀ p c r H1, l = p ++ c :: r → Ex H H1 → f c = true → ∀ R : VK, (∀ H2, Ex H1 H2 → R (v c) H2) → te ((wipe σ vs).set j (some (S [c]))) H1 R)
    (hq : ∀ p H1, H p = none → Ex H H1 → H1 p = some (.lst ((l.filter f).map v)) → Q (.ref p) H1) : qLc (Its (st l)) (gName j) tt te vs σ H Q := by
  have e : (st l).cps.size = l.length := by simp [st]
  have w := walk_str (z := st l)
  rw [e] at w
  refine go_lc (enc := fun c => S [c]) f v w (fun i H x H' hi hy => ?_) (fun _ _ => trivial) hz hw ht he hq
  obtain ⟨e1, c, hc, e2⟩ := hy
  exact ⟨e1, c, by simpa [st] using hc, e2⟩
theorem lc_L {K : PySem.W.Frag} {q : Addr} {l : List α} {enc : α → V} {j : Nat} (f : α → Bool) (v : α → V) (hp : SqL K H q (l.map enc)) (hz : l.length ≤ 1000000)
    (hw : ∀ x, wipe ((wipe σ vs).set j (some x)) vs = wipe σ vs)
    (ht : ∀ p a r H1, l = p ++ a :: r → Ex H H1 → ∀ R : Bool → Hp → Prop, (∀ H2, Ex H1 H2 → R (f a) H2) → tt ((wipe σ vs).set j (some (enc a))) H1 R)
    (he : ∀ p a r H1, l = p ++ a :: r → Ex H H1 → f a = true → ∀ R : VK, (∀ H2, Ex H1 H2 → R (v a) H2) → te ((wipe σ vs).set j (some (enc a))) H1 R)
    (hq : ∀ p H1, H p = none → Ex H H1 → H1 p = some (.lst ((l.filter f).map v)) → Q (.ref p) H1) : qLc (Itl K q) (gName j) tt te vs σ H Q := by
  have w := walk_list (K := K) (a := q) (xs := l.map enc)
  rw [List.length_map] at w
  refine go_lc (l := l) (enc := enc) f v w (fun i H x H' hi hy => ?_) (fun H1 e => e.sqL hp) hz hw ht he hq
  obtain ⟨e1, hx⟩ := hy
  rw [List.getElem?_map] at hx
  cases y : l[i]? with
  | none => rw [y] at hx; cases hx
  | some a => rw [y] at hx; exact ⟨e1, a, rfl, (Option.some.inj hx).symm⟩
theorem lc_R {n j : Nat} {lo : Int} (f : Nat → Bool) (v : Nat → V) (hz : n ≤ 1000000)
    (hw : ∀ x, wipe ((wipe σ vs).set j (some x)) vs = wipe σ vs)
    (ht : ∀ i H1, i < n → Ex H H1 → ∀ R : Bool → Hp → Prop, (∀ H2, Ex H1 H2 → R (f i) H2) → tt ((wipe σ vs).set j (some (.int (lo + (i : Nat))))) H1 R)
    (he : ∀ i H1, i < n → Ex H H1 → f i = true → ∀ R : VK, (∀ H2, Ex H1 H2 → R (v i) H2) → te ((wipe σ vs).set j (some (.int (lo + (i : Nat))))) H1 R)
    (hq : ∀ p H1, H p = none → Ex H H1 → H1 p = some (.lst (((List.range n).filter f).map v)) → Q (.ref p) H1) : qLc (Itr lo n) (gName j) tt te vs σ H Q := by
  have w := walk_range (lo := lo) (n := n)
  have key : ∀ {p r : List Nat} {a : Nat}, List.range n = p ++ a :: r → a < n := fun {p r a} e => by
    have : a ∈ List.range n := by rw [e]; simp
    simpa using this
  refine go_lc (l := List.range n) (enc := fun i => V.int (lo + (i : Nat))) f v (by simpa using w) (fun i H x H' hi hy => ?_) (fun _ _ => trivial) (by simpa using hz) hw (fun p a r H1 e ex => ht a H1 (key e) ex) (fun p a r H1 e ex => he a H1 (key e) ex) hq
  obtain ⟨e1, e2⟩ := hy
  refine ⟨e1, i, ?_, e2⟩
  rw [List.length_range] at hi
  rw [List.getElem?_range hi]
end
end TY

/-! exceptions with one field, what the suites read, deep equality, slices of texts -/
namespace TY
open PySem PyProof.Rows PySem.Spec L2

section
variable {K : PySem.W.Frag} {σ : L2.St} {H : Hp} {D : Ends} {te : TE} {Q : VK} {C a : Addr} {f : Str} {x : V}
/-- an __init__ that lays one field -/
def spI1 (C : Addr) (f : Str) : Sp := fun vs H Q _ => ∃ (a : Addr) (x : V), vs = [.ref a, x] ∧ H a = some (exo a C none) ∧ ∀ dx, H dx = none → dx ≠ a → Q .non (upd (upd H dx (exd dx [(f, x)])) a (exo a C (some dx)))
def qMkO (C : Addr) (sp : Sp) (dvs : List V) (Q : XK) : List V → Hp → Prop := fun vs H1 => vs.length ≤ 1000 ∧ ∀ a, H1 a = none → sp (.ref a :: (vs ++ dvs)) (upd H1 a (exo a C none))
  (fun v H2 => v = .non ∧ ∃ (d : Addr) (fs : List (Str × V)),
   H2 a = some (exo a C (some d)) ∧ H2 d = some (exd d fs) ∧ H1 d = none ∧ Q (.ref C) (some d) (upd (del H2 a) d (.xd fs))) (fun _ _ _ => False)
theorem x_mkO {sp : Sp} {dvs : List V} {ta : TA} {Q : XK} (h : ta σ H (qMkO C sp dvs Q)) : tMkO C sp dvs ta σ H Q := h
theorem x_mk1 {Q : XK} (h : ∀ d H', H d = none → Ex H H' → H' d = some (.xd [(f, x)]) → Q (.ref C) (some d) H') : qMkO C (spI1 C f) [] Q [x] H := by
  refine ⟨by simp, fun a ha => ⟨a, x, rfl, upd_same, fun dx hd ne => ⟨rfl, dx, [(f, x)], upd_same, ?_, ?_, ?_⟩⟩⟩
  · rw [upd_ne ne, upd_same]
  · rw [upd_ne ne] at hd
    exact hd
  · rw [upd_ne ne] at hd
    refine h dx _ hd (fun b o hb => ?_) upd_same
    have n1 : b ≠ dx := ne_of_none hb hd
    have n2 : b ≠ a := ne_of_none hb ha
    rw [upd_ne n1, del_ne n2, upd_ne n2, upd_ne n1, upd_ne n2]
    exact hb
theorem x_ost0 {to te : TE} (h : te σ H fun y H1 => to σ H1 fun x H2 => ∃ a C : Addr, x = .ref a ∧ OexC K C ∧ PySem.W.findIn K (.ref C) f = some none ∧
  ((H2 a = some (exo a C none) ∧ ∀ dx,
    H2 dx = none → dx ≠ a → D.nx σ (upd (upd H2 dx (exd dx [(f, y)])) a (exo a C (some dx)))) ∨
    ∃ (dx : Addr) (fs : List (Str × V)), H2 a = some (exo a C (some dx)) ∧ H2 dx = some (exd dx fs) ∧ fs.length ≤ 900 ∧ D.nx σ (upd H2 dx (exd dx ((f, y) :: fs))))) : tOst K f to te D σ H := h
/-- the suite takes it -/
theorem x_wAs {c cls : Value} {i : Nat} {ts : Addr → Value → Option Addr → TS} {Wout : WX} {d : Option Addr} (he : PySem.W.exmOne K cls c = some true)
    (h : ∀ a, H a = none → ts a cls d { nx := fun σ' H' => D.nx (σ'.set i none) H', rt := D.rt, bk := fun σ' H' => D.bk (σ'.set i none) H', ct := fun σ' H' => D.ct (σ'.set i none) H' } (σ.set i (some (.ref a))) H) :
    wAs K c i ts Wout D cls d σ H := ⟨true, he, fun _ => h, fun z => nomatch z⟩
def qIsP (K : PySem.W.Frag) (a : Addr) (cls : Value) (d : Option Addr) : List V → Hp → VK → Prop := rIsP K a cls d
theorem l_isP {cls : Value} {d : Option Addr} {t : TA} (h : t σ H fun vs H1 => rIsP K a cls d vs H1 Q) : tCB (rIsP K a cls d) t σ H Q := h
theorem x_isP {E Cc : Addr} {d : Option Addr} {b : Bool} (hC : ExcC K E) (hk : PySem.W.kitOne K (.ref E) (.ref Cc) = some b) (hd : ∀ dd, d = some dd → ∃ fs, H dd = some (.xd fs)) (h : Q (.bl b) H) : rIsP K a (.ref E) d [.ref a, .ref Cc] H Q :=
  ⟨E, .ref Cc, .ref Cc, b, rfl, hC, rfl, fun _ e => e, hk, hd, h⟩
def qXp (K : PySem.W.Frag) (a : Addr) (cls : Value) (d : Option Addr) (f : Str) (Q : VK) : VK := fun x H1 => ∃ C : Addr, x = .ref a ∧ cls = .ref C ∧ XfC K C ∧ PySem.W.findIn K (.ref C) f = some none ∧
  ∃ (dd : Addr) (fs : List (Str × V)) (v : V), d = some dd ∧ H1 dd = some (.xd fs) ∧ fs.lookup f = some v ∧ Q v H1
theorem x_xp {cls : Value} {d : Option Addr} (h : te σ H (qXp K a cls d f Q)) : tXp K a cls d f te σ H Q := h
theorem x_qXp {dd : Addr} {fs : List (Str × V)} {v : V} (T : XfC K C) (hn : PySem.W.findIn K (.ref C) f = some none) (hx : H dd = some (.xd fs)) (hl : fs.lookup f = some v) (h : Q v H) : qXp K a (.ref C) (some dd) f Q (.ref a) H :=
  ⟨C, rfl, rfl, T, hn, dd, fs, v, rfl, hx, hl, h⟩
/-! deep equality of what is the same -/
theorem x_eqD {x y : V} {d : PyData} (hx : Dp K H x d) (hy : Dp K H y d) (s : SeqAt.shaped d = true) (e : PyData.eqv d d = true) (h : Q (.bl true) H) : rEqD K x y H Q := ⟨d, d, hx, hy, s, s, by rw [e]; exact h⟩
theorem x_neD {x y : V} {d : PyData} (hx : Dp K H x d) (hy : Dp K H y d) (s : SeqAt.shaped d = true) (e : PyData.eqv d d = true) (h : Q (.bl false) H) : rNeD K x y H Q := ⟨d, d, hx, hy, s, s, by rw [e]; exact h⟩
theorem shaped_si (a : Str) (n : Int) (h : PyData.strOk a = true) : SeqAt.shaped (.tuple [.str a, .int n]) = true := by
  simp [SeqAt.shaped, PyData.canLay0, PyData.canLayAll0, PyData.depth, PyData.depthAll, h]
theorem shaped_s (a : Str) (h : PyData.strOk a = true) : SeqAt.shaped (.tuple [.str a]) = true := by
  simp [SeqAt.shaped, PyData.canLay0, PyData.canLayAll0, PyData.depth, PyData.depthAll, h]
theorem eqv_si (a : Str) (n : Int) : PyData.eqv (.tuple [.str a, .int n]) (.tuple [.str a, .int n]) = true := by
  simp [PyData.eqv, PyData.eqvAll]
theorem eqv_s (a : Str) : PyData.eqv (.tuple [.str a]) (.tuple [.str a]) = true := by
  simp [PyData.eqv, PyData.eqvAll]
theorem x_isiI {n : Int} {T : String} {b : Bool} (hk : PySem.W.kitOne K (.type "int") (.type T) = some b) (h : Q (.bl b) H) : rIsi K [.int n, .ty T] H Q := ⟨.int n, .ty T, .type "int", .type T, b, rfl, .ty T, .base (.int n), hk, h⟩
/-! texts -/
theorem x_repS {l : List Nat} {n : Int} (h1 : 2 ≤ n) (h2 : n ≤ 100) (h3 : 1 ≤ l.length) (h4 : l.length ≤ 100) (h : Q (S (List.replicate n.toNat l).flatten) H) : qRepS (S l) (.int n) H Q :=
  ⟨st l, n, rfl, rfl, h1, h2, by rw [st_len]; exact h3, by rw [st_len]; exact h4, by rw [strRep_st]; exact h⟩
theorem x_upper {l : List Nat} (hz : l.length ≤ 100000) (ha : ∀ c ∈ l, c < 128) (h : Q (S (l.map up1)) H) : qUpper (S l) [] H Q := by
  refine ⟨st l, rfl, rfl, by rw [st_len]; omega, ?_⟩
  rw [upper_ascii (x := st l) (fun c hc => ha c (by rw [st_cps] at hc; exact hc))]
  have e : (⟨(st l).cps.map up1⟩ : Str) = st (l.map up1) := by
    rw [st_of ⟨_⟩]
    refine congrArg st ?_
    rw [Array.toList_map, st_cps]
  rw [e]
  exact h
theorem cutN_take (l : List Nat) (k : Nat) : cutN l none (some (k : Int)) = l.take k := by
  unfold cutN
  rw [HT.sIx_none, HT.sIx_nat, Nat.sub_zero, List.drop_zero]
  by_cases h : k ≤ l.length
  · rw [Nat.min_eq_left h]
  · (rw [Nat.min_eq_right (by omega), List.take_of_length_le (Nat.le_refl _), List.take_of_length_le (by omega)])
theorem cutN_drop (l : List Nat) (k : Nat) : cutN l (some (k : Int)) none = l.drop k := by
  unfold cutN
  rw [HT.sIx_nat, HT.sIx_none]
  by_cases h : k ≤ l.length
  · rw [Nat.min_eq_left h, List.take_of_length_le (by rw [List.length_drop]; omega)]
  · (rw [Nat.min_eq_right (by omega), List.drop_of_length_le (Nat.le_refl _), List.drop_of_length_le (by omega)])
    simp
/-- a list of texts -/
theorem texts_of {n : Nat} : ∀ {xs : List V}, (∀ v ∈ xs, ∃ l : List Nat, v = S l ∧ l.length ≤ n) → ∃ ts : List (List Nat), xs = ts.map S ∧ ∀ t ∈ ts, t.length ≤ n
  | [], _ => ⟨[], rfl, fun _ h => nomatch h⟩
  | v :: xs, h => by
    obtain ⟨l, rfl, hl⟩ := h v List.mem_cons_self
    obtain ⟨ts, rfl, ht⟩ := texts_of (n := n) (xs := xs) fun v hv => h v (List.mem_cons_of_mem _ hv)
    exact ⟨l :: ts, rfl, fun t m => (List.mem_cons.mp m).elim (fun e => e ▸ hl) (ht t)⟩
end
end TY

/-! list(zip(xs, ys)) of two lists: a fresh list of fresh pairs -/
namespace TY
open PySem PySem.Calls PyProof.Rows PyProof.V PySem.Spec PySem.W L2

theorem zip_look {α : Type} : ∀ {as : List Addr} {ps : List α} {j : Nat} {a : Addr} {p : α}, as.Nodup → as[j]? = some a → ps[j]? = some p → (as.zip ps).lookup a = some p
  | [], _, _, _, _, _, e, _ => by simp at e
  | b :: as, [], _, _, _, _, _, e => by simp at e
  | b :: as, q :: ps, 0, a, p, nd, e1, e2 => by
    obtain rfl : b = a := by simpa using e1
    obtain rfl : q = p := by simpa using e2
    simp [List.lookup]
  | b :: as, q :: ps, j + 1, a, p, nd, e1, e2 => by
    have m : a ∈ as := List.mem_of_getElem? (i := j) (by simpa using e1)
    have ne : (a == b) = false := by
      rw [beq_eq_false_iff_ne]
      exact fun z => (List.nodup_cons.mp nd).1 (z ▸ m)
    rw [List.zip_cons_cons, List.lookup_cons, ne]
    exact zip_look (List.nodup_cons.mp nd).2 (by simpa using e1) (by simpa using e2)
theorem zip_none {α : Type} {as : List Addr} {ps : List α} {a : Addr} (h : a ∉ as) : (as.zip ps).lookup a = none := by
  rw [List.lookup_eq_none_iff]
  intro q hq
  have m := (List.of_mem_zip (a := q.1) (b := q.2) (by simpa using hq)).1
  simpa using fun e : a = q.1 => h (e ▸ m)
/-- S bears the list of the addresses, each of them its pair -/
def layP (S : Addr) (as : List Addr) (ps : List (V × V)) (H : Hp) : Hp := fun b => if b = S then some (.lst (as.map V.ref)) else match (as.zip ps).lookup b with
  | some p => some (.tup [p.1, p.2])
  | none => H b
theorem refs_vals : ∀ as : List Addr, Vals (as.map V.ref) (as.map Value.ref)
  | [] => .nil
  | _ :: as => .cons rfl (refs_vals as)

def RelP (p : V × V) (u : Value × Value) : Prop := RelV p.1 u.1 ∧ RelV p.2 u.2
theorem paired_at {α β : Type} {F : α → β → Prop} : ∀ {xs : List α} {ys : List β}, Paired F xs ys → ∀ {i : Nat} {y : β}, ys[i]? = some y → ∃ x, xs[i]? = some x ∧ F x y
  | _, _, .nil, i, y, e => by cases e
  | _, _, .cons r t, 0, y, e => by
    cases e
    exact ⟨_, rfl, r⟩
  | _, _, .cons r t, i + 1, y, e => paired_at t e
section
variable {X : Cx}
theorem pairs_laid {pins : List (Addr × Obj)} {σ : L2.St} {H : Hp} {s : Shared} {j : Heap} {tk S c : Nat} {ps : List (V × V)} {us : List (Value × Value)} {acc : Array Value} {as : List Addr} (I : Inv X pins σ H s)
    (hz : us.length ≤ sizeLine) (rv : Paired RelP ps us) (hk : ∀ b o, s.heap.get? b = some o → j.get? b = some o) (hle : S ≥ s.heap.objs.size)
    (hS : j.get? S = some { cls := .type "list", dict := none, data := .seq acc c, slots := #[] }) (hl : as.length = us.length) (rise : as.Pairwise (· < ·)) (above : ∀ a ∈ as, S < a)
    (hp : ∀ (i : Nat) (a : Addr), as[i]? = some a → ∃ u, us[i]? = some u ∧ IsPair j a u.1 u.2) (hacc : acc.toList = as.map Value.ref) :
    Ex H (layP S as ps H) ∧ H S = none ∧ layP S as ps H S = some (.lst (as.map V.ref)) ∧ (∀ (i : Nat) (a : Addr) (p : V × V), as[i]? = some a → ps[i]? = some p → layP S as ps H a = some (.tup [p.1, p.2])) ∧ Inv X pins σ (layP S as ps H) { s with heap := j, toks := tk } := by
  have nd : as.Nodup := rise.imp fun h => Nat.ne_of_lt h
  have lps : ps.length = us.length := Paired.length rv
  have newS : H S = none := I.hok.fresh hle
  have new : ∀ a ∈ as, H a = none := fun a ha => I.hok.fresh (Nat.le_trans hle (Nat.le_of_lt (above a ha)))
  have off : ∀ b, b ≠ S → b ∉ as → layP S as ps H b = H b := fun b h1 h2 => by
    unfold layP
    rw [if_neg h1, zip_none h2]
  have onS : layP S as ps H S = some (.lst (as.map V.ref)) := if_pos rfl
  have on : ∀ (i : Nat) (a : Addr) (p : V × V), as[i]? = some a → ps[i]? = some p → layP S as ps H a = some (.tup [p.1, p.2]) := fun i a p e1 e2 => by
    unfold layP
    rw [if_neg (Nat.ne_of_gt (above a (List.mem_of_getElem? e1))), zip_look nd e1 e2]
  have low : ∀ b o, s.heap.get? b = some o → b ≠ S ∧ b ∉ as := fun b o e => by
    have h1 := Heap.lt_size e
    exact ⟨Nat.ne_of_lt (Nat.lt_of_lt_of_le h1 hle), fun m => absurd (above b m) (Nat.not_lt.mpr (Nat.le_of_lt (Nat.lt_of_lt_of_le h1 hle)))⟩
  have ex : Ex H (layP S as ps H) := fun b u e => by
    rw [off b (ne_of_none e newS) fun m => by rw [new b m] at e; cases e]
    exact e
  refine ⟨ex, newS, onS, on, ?_⟩
  refine I.call' (ch := []) rfl ⟨fun b o q _ _ _ => hk b o q, fun b o q _ _ _ => ⟨o.slots, hk b o q⟩, fun b o q n _ => ?_, fun b o q _ => ⟨o, hk b o q⟩, fun b xs q => ex b _ q, fun b o u q => ex b _ q, fun b tt q => ⟨#[], by rw [ex b _ q]; simp⟩⟩ (fun b u q => ?_) I.bare fun b z => by simp at z
  · rw [off b (low b o q).1 (low b o q).2]
    exact n
  · by_cases hb : b = S
    · rw [hb] at q ⊢
      rw [onS] at q
      cases q
      refine ⟨by rw [List.length_map, hl]; exact hz, acc.toList, c, by rw [hacc]; exact refs_vals as, ?_⟩
      rw [Array.toArray_toList]
      exact hS
    · by_cases hm : b ∈ as
      · obtain ⟨i, hi⟩ := List.mem_iff_getElem?.mp hm
        obtain ⟨v, hv, pr⟩ := hp i b hi
        obtain ⟨p, hpp, r1, r2⟩ := paired_at rv hv
        rw [on i b p hi hpp] at q
        cases q
        exact ⟨by show 2 ≤ sizeLine; decide, [v.1, v.2], .cons r1 (.cons r2 .nil), ⟨_, pr, rfl, _, rfl⟩⟩
      · rw [off b hb hm] at q
        exact (I.hok b u q).stay (fun d v _ y => hk d v y) (fun d y => ex d _ y) fun d xs y => ex d _ y
end

theorem zl_no_len : typeLookup (.type "zip") "__len__" = pure none := am_miss_of_fast (by decide +kernel)
theorem zl_no_hint : typeLookup (.type "zip") "__length_hint__" = pure none := am_miss_of_fast (by decide +kernel)

def ZSt (z TI TO i1 i2 l1 l2 S : Addr) (xs ys : Array Value) (i : Nat) (h : Heap) : Prop :=
  IsPair h TI (.ref i1) (.ref i2) ∧ h.IsListIter i1 l1 i ∧ h.IsListIter i2 l2 i ∧ h.IsList l1 xs ∧ h.IsList l2 ys ∧
  ((IsZip h z TI TO .none ∧ ∃ a b, IsPair h TO a b) ∨ ∃ T f oT, IsZipHeld h z TI TO T f ∧ h.get? T = some oT ∧ T ∉ [z, i1, i2, S])
section
variable {prog : Program} {w : World} {A : Around} {E : Value → Shared → Prop} {s : Shared} {z TI TO i1 i2 l1 l2 S : Addr} {xs ys : Array Value}
theorem zl_hint {r : Addr} {Q : Bool → Shared → Prop} (hT : s.TypeIs (.ref r) "zip") (h : Q true s) : wpAny (model prog w) A (Builtin.List.listLengthHint (.ref r)) Q E s := by
  (unfold Builtin.List.listLengthHint)
  refine wpAny_bind (wpAny_specialOf hT zl_no_len ?_)
  refine wpAny_bind (wpAny_specialOf hT zl_no_hint ?_)
  exact wpAny_pure h
theorem ZSt.keep {i : Nat} {h h' : Heap} (st : ZSt z TI TO i1 i2 l1 l2 S xs ys i h) (hk : ∀ b o, b ≠ S → h.get? b = some o → h'.get? b = some o) (off : S ∉ [z, TI, TO, i1, i2, l1, l2]) : ZSt z TI TO i1 i2 l1 l2 S xs ys i h' := by
  simp only [List.mem_cons, List.not_mem_nil, or_false, not_or] at off
  obtain ⟨dz, dTI, dTO, d1, d2, dl1, dl2⟩ := off
  obtain ⟨hTI, h1, h2, g1, g2, hz⟩ := st
  refine ⟨hk _ _ (Ne.symm dTI) hTI, h1.at fun o e => hk _ o (Ne.symm d1) e, h2.at fun o e => hk _ o (Ne.symm d2) e, g1.at fun o e => hk _ o (Ne.symm dl1) e, g2.at fun o e => hk _ o (Ne.symm dl2) e, ?_⟩
  rcases hz with ⟨hz, a, b, hTO⟩ | ⟨T, f, oT, hz, hT, r⟩
  · (exact .inl ⟨hk _ _ (Ne.symm dz) hz, a, b, hk _ _ (Ne.symm dTO) hTO⟩)
  · exact .inr ⟨T, f, oT, hk _ _ (Ne.symm dz) hz, hk _ _ (fun e => r (by simp [e])) hT, r⟩
theorem zl_item {i : Nat} {x y : Value} {Q : Option Value → Shared → Prop} (D : ZipApart z TI TO i1 i2 l1 l2) (st : ZSt z TI TO i1 i2 l1 l2 S xs ys i s.heap) (hS : S < s.heap.objs.size) (ex : xs[i]? = some x) (ey : ys[i]? = some y)
    (hQ : ∀ h', ZSt z TI TO i1 i2 l1 l2 S xs ys (i + 1) h' → IsPair h' s.heap.objs.size x y → (∀ c o, c ∉ [z, TO, i1, i2] → s.heap.get? c = some o → h'.get? c = some o) → Q (some (.ref s.heap.objs.size)) { s with heap := h' }) :
    (wpAny (model prog w) A (pyNext (.ref z)) Q E s) := by
  (obtain ⟨hTI, h1, h2, hl1, hl2, hz⟩ := st)
  (have lt : ∀ {c o}, s.heap.get? c = some o → s.heap.objs.size ≠ c := fun e => Nat.ne_of_gt (Heap.lt_size e))
  have n1 : s.heap.objs.size ≠ i1 := let ⟨_, e, _⟩ := h1; lt e
  have n2 : s.heap.objs.size ≠ i2 := let ⟨_, e, _⟩ := h2; lt e
  rcases hz with ⟨hz, a, b, hTO⟩ | ⟨T, f, oT, hz, hT, r⟩
  · (refine wpAny_pyNext_zip_item D hz hTI hTO h1 h2 hl1 hl2 ex ey fun h' a1 a2 a3 a4 a5 a6 hk => ?_)
    refine hQ h' ⟨hk _ _ D.TIz D.TITO D.TIi1 D.TIi2 hTI, a3, a4, hl1.at fun o e => hk _ o D.l1z D.l1TO D.l1i1 D.l1i2 e, hl2.at fun o e => hk _ o D.l2z D.l2TO D.l2i1 D.l2i2 e, .inr ⟨s.heap.objs.size, false, _, a1, a5, ?_⟩⟩ a5
      fun c o hc e => hk c o (fun q => hc (by simp [q])) (fun q => hc (by simp [q])) (fun q => hc (by simp [q])) (fun q => hc (by simp [q])) e
    simp only [List.mem_cons, List.not_mem_nil, or_false, not_or]
    exact ⟨lt hz, n1, n2, Nat.ne_of_gt hS⟩
  · (refine wpAny_pyNext_zip_item_held D hz hT hTI h1 h2 hl1 hl2 ex ey fun h' a1 a3 a4 a5 a6 hk => ?_)
    have r' := r
    simp only [List.mem_cons, List.not_mem_nil, or_false, not_or] at r'
    exact hQ h' ⟨hk _ _ D.TIz D.TIi1 D.TIi2 hTI, a3, a4, hl1.at fun o e => hk _ o D.l1z D.l1i1 D.l1i2 e, hl2.at fun o e => hk _ o D.l2z D.l2i1 D.l2i2 e, .inr ⟨T, true, oT, a1, hk _ _ r'.1 r'.2.1 r'.2.2.1 hT, r⟩⟩ a5
      fun c o hc e => hk c o (fun q => hc (by simp [q])) (fun q => hc (by simp [q])) (fun q => hc (by simp [q])) e
theorem zl_done {i : Nat} {Q : Option Value → Shared → Prop} (hh : A.handled = none) (D : ZipApart z TI TO i1 i2 l1 l2) (st : ZSt z TI TO i1 i2 l1 l2 S xs ys i s.heap) (he : xs[i]? = none ∨ ys[i]? = none)
    (hQ : ∀ h', (∀ c o, c ∉ [z, TO, i1, i2] → s.heap.get? c = some o → h'.get? c = some o) → Q none { s with heap := h' }) : wpAny (model prog w) A (pyNext (.ref z)) Q E s := by
  (obtain ⟨hTI, h1, h2, hl1, hl2, hz⟩ := st)
  rcases hz with ⟨hz, a, b, hTO⟩ | ⟨T, f, oT, hz, hT, _⟩
  · exact wpAny_pyNext_zip_end hh D hz hTI hTO h1 h2 hl1 hl2 he fun h' hk => hQ h' fun c o hc e => hk c o (fun q => hc (by simp [q])) (fun q => hc (by simp [q])) (fun q => hc (by simp [q])) (fun q => hc (by simp [q])) e
  · exact wpAny_pyNext_zip_end_held hh D hz hT hTI h1 h2 hl1 hl2 he fun h' hk => hQ h' fun c o hc e => hk c o (fun q => hc (by simp [q])) (fun q => hc (by simp [q])) (fun q => hc (by simp [q])) e
/-- the addresses of the pairs laid so far -/
structure PrG (us : List (Value × Value)) (lo : Addr) (h : Heap) (as : List Addr) : Prop where
  rise : as.Pairwise (· < ·)
  above : ∀ a ∈ as, lo < a
  at' : ∀ (i : Nat) (a : Addr), as[i]? = some a → ∃ u, us[i]? = some u ∧ IsPair h a u.1 u.2
theorem PrG.there {us : List (Value × Value)} {lo : Addr} {h : Heap} {as : List Addr} (g : PrG us lo h as) {a : Addr} (ha : a ∈ as) : a < h.objs.size := by
  obtain ⟨i, hi⟩ := List.mem_iff_getElem?.mp ha
  obtain ⟨_, _, e⟩ := g.at' i a hi
  exact Heap.lt_size e
variable {R : Result → Shared → Prop}
theorem zl_loop (hh : A.handled = none) (D : ZipApart z TI TO i1 i2 l1 l2) (us : List (Value × Value)) (hux : xs.toList = us.map (·.1)) (huy : ys.toList = us.map (·.2)) (hn : us.length ≤ sizeLine) (off : ∀ c ∈ [z, TI, TO, i1, i2, l1, l2], c < S) (res : Value) {h₁ : Heap}
    (hR : ∀ h' tk acc c as, (∀ b o, b ≠ S → b ∉ [z, TO, i1, i2] → h₁.get? b = some o → h'.get? b = some o) → h'.get? S = some { cls := .type "list", dict := none, data := .seq acc c, slots := #[] } → as.length = us.length → PrG us S h' as →
      acc.toList = as.map Value.ref →
      R (.ok (.ret res)) { s with heap := h', toks := tk }) :
    ∀ (k i : Nat) (h : Heap) (tk c : Nat) (acc : Array Value) (as : List Addr), us.length - i = k → i ≤ us.length → ZSt z TI TO i1 i2 l1 l2 S xs ys i h → (∀ b o, b ≠ S → b ∉ [z, TO, i1, i2] → h₁.get? b = some o → h.get? b = some o) →
      h.get? S = some { cls := .type "list", dict := none, data := .seq acc c, slots := #[] } → acc.toList = as.map Value.ref → as.length = i → PrG us S h as →
      codeAny (model prog w) A (.builtin "list.extend.loop" ⟨[.ref S, .ref z, res], []⟩) R { s with heap := h, toks := tk } := by
  have offS : S ∉ [z, TI, TO, i1, i2, l1, l2] := fun m => Nat.lt_irrefl _ (off S m)
  have offZ : S ∉ [z, TO, i1, i2] := fun m => offS (by simp at m ⊢; rcases m with q | q | q | q <;> simp [q])
  have big : ∀ b, S < b → b ∉ [z, TO, i1, i2] := fun b hb m => by
    have q := off b (by simp at m ⊢; rcases m with q | q | q | q <;> simp [q])
    exact Nat.lt_irrefl _ (Nat.lt_trans hb q)
  have gx : ∀ i : Nat, xs[i]? = us[i]?.map (·.1) := fun i => by rw [← Array.getElem?_toList, hux, List.getElem?_map]
  have gy : ∀ i : Nat, ys[i]? = us[i]?.map (·.2) := fun i => by rw [← Array.getElem?_toList, huy, List.getElem?_map]
  intro k
  induction k with
  | zero =>
    intro i h tk c acc as hk hi hst hkeep hS hacc hal hG
    have hin : i = us.length := by omega
    (refine codeAny_builtin PySem.F.entry_extend_loop ?_)
    (rw [Around.under_plainId PySem.F.plain_extend_loop _])
    refine wpAny_bind (m := pyNext (.ref z)) (zl_done (s := { s with heap := h, toks := tk }) (A := A.in1) hh D hst (.inl ?_) fun h' he => ?_)
    · rw [gx, hin, List.getElem?_eq_none (Nat.le_refl _)]
      rfl
    · refine wpAny_pure (hR h' tk acc c as (fun b o n1 n2 e => he b o n2 (hkeep b o n1 n2 e)) (he S _ offZ hS) (by omega) ⟨hG.rise, hG.above, fun j a hj => ?_⟩ hacc)
      obtain ⟨u, e1, e2⟩ := hG.at' j a hj
      exact ⟨u, e1, he a _ (big a (hG.above a (List.mem_of_getElem? hj))) e2⟩
  | succ k ih =>
    intro i h tk c acc as hk hi hst hkeep hS hacc hal hG
    have hlt : i < us.length := by omega
    obtain ⟨u, hu⟩ : ∃ u, us[i]? = some u := ⟨us[i], List.getElem?_eq_getElem hlt⟩
    (have hsz : acc.size = i := by rw [← Array.length_toList, hacc, List.length_map, hal])
    (have hSl : S < h.objs.size := Heap.lt_size hS)
    (refine codeAny_builtin PySem.F.entry_extend_loop ?_)
    (rw [Around.under_plainId PySem.F.plain_extend_loop _])
    refine wpAny_bind (m := pyNext (.ref z)) (zl_item (s := { s with heap := h, toks := tk }) (A := A.in1) D hst hSl (x := u.1) (y := u.2) (by rw [gx, hu]; rfl) (by rw [gy, hu]; rfl) fun h' hst' ht hkp => ?_)
    dsimp only at ht hkp ⊢
    have hS' := hkp S _ offZ hS
    (have up : ∀ b o, b ≠ S → h'.get? b = some o → (h'.update S (Obj.mapSeq (·.push (Value.ref h.objs.size)))).get? b = some o := fun b o hb e => (Heap.get?_update_other _ _ (Ne.symm hb)).trans e)
    (show wpAny _ A.in1 (updateSeq S (·.push (Value.ref h.objs.size)) >>= _) _ _ _)
    refine wpAny_bind ?_
    refine wpAny_updateSeq hS' rfl (wpAny_pure ⟨plainId_quiet PySem.F.plain_extend_loop _, ih (i + 1) _ tk _ (acc.push (Value.ref h.objs.size)) (as ++ [h.objs.size]) (by omega) hlt (hst'.keep up offS)
      (fun b o n1 n2 e => up b o n1 (hkp b o n2 (hkeep b o n1 n2 e))) (Heap.get?_update_self _ hS' rfl) (by rw [Array.toList_push, hacc, List.map_append]; rfl) (by rw [List.length_append, hal]; rfl) ⟨?_, ?_, ?_⟩⟩) (by rw [hsz]; omega) (by show (acc.push (Value.ref h.objs.size)).size ≤ sizeLine + 1; rw [Array.size_push, hsz]; omega)
    · (refine List.pairwise_append.mpr ⟨hG.rise, List.pairwise_singleton _ _, fun a ha b hb => ?_⟩)
      obtain rfl := List.mem_singleton.mp hb
      exact hG.there ha
    · intro a ha
      rcases List.mem_append.mp ha with m | m
      · exact hG.above a m
      · obtain rfl := List.mem_singleton.mp m
        exact hSl
    · intro j b hj
      rcases Nat.lt_or_ge j as.length with n1 | n1
      · rw [List.getElem?_append_left n1] at hj
        obtain ⟨u', e1, e2⟩ := hG.at' j b hj
        (have hb := hG.above b (List.mem_of_getElem? hj))
        exact ⟨u', e1, up b _ (Nat.ne_of_gt hb) (hkp b _ (big b hb) e2)⟩
      · have hj2 := (List.getElem?_eq_some_iff.mp hj).1
        rw [List.length_append, List.length_singleton] at hj2
        obtain rfl : j = as.length := by omega
        obtain rfl : h.objs.size = b := by simpa using hj
        exact ⟨u, by rw [hal]; exact hu, up _ _ (Nat.ne_of_gt hSl) ht⟩
/-- list(z), z a zip of two lists at their beginning -/
theorem zl_call {Q : Value → Shared → Prop} (hh : A.handled = none) (D : ZipApart z TI TO i1 i2 l1 l2) (us : List (Value × Value)) (hux : xs.toList = us.map (·.1)) (huy : ys.toList = us.map (·.2)) (hn : us.length ≤ sizeLine)
    (hz : IsZip s.heap z TI TO .none) (hTI : IsPair s.heap TI (.ref i1) (.ref i2)) (hTO : ∃ a b, IsPair s.heap TO a b) (h1 : s.heap.IsListIter i1 l1 0) (h2 : s.heap.IsListIter i2 l2 0) (g1 : s.heap.IsList l1 xs) (g2 : s.heap.IsList l2 ys)
    (hQ : ∀ h' tk acc c as, (∀ b o, b ∉ [z, TO, i1, i2] → s.heap.get? b = some o → h'.get? b = some o) → h'.get? s.heap.objs.size = some { cls := .type "list", dict := none, data := .seq acc c, slots := #[] } → as.length = us.length → PrG us s.heap.objs.size h' as →
      acc.toList = as.map Value.ref →
      Q (.ref s.heap.objs.size)
        { s with heap := h', toks := tk }) :
    wpAny (model prog w) A (call (.type "list") [.ref z]) Q E s := by
  obtain ⟨a0, b0, hTO⟩ := hTO
  have off : ∀ c ∈ [z, TI, TO, i1, i2, l1, l2], c < s.heap.objs.size := fun c hc => by
    obtain ⟨_, e1, _⟩ := id h1
    obtain ⟨_, e2, _⟩ := id h2
    obtain ⟨_, e3, _⟩ := id g1
    obtain ⟨_, e4, _⟩ := id g2
    simp only [List.mem_cons, List.not_mem_nil, or_false] at hc
    rcases hc with rfl | rfl | rfl | rfl | rfl | rfl | rfl
    all_goals first | exact Heap.lt_size hz | exact Heap.lt_size hTI | exact Heap.lt_size hTO | exact Heap.lt_size e1 | exact Heap.lt_size e2 | exact Heap.lt_size e3 | exact Heap.lt_size e4
  have offZ : z ≠ s.heap.objs.size := Nat.ne_of_lt (off z (by simp))
  refine callType_codes
    (Q₁ := fun obj s₁ => obj = .ref s.heap.objs.size ∧ s₁ = { s with heap := s.heap.push { cls := .type "list", data := .seq #[] } }) PySem.F.called_list (PySem.F.typeCall_list_1 _) PySem.F.entry_list_init
    (code_list_new _ ⟨rfl, rfl⟩) fun obj s₁ hs => ?_
  obtain ⟨rfl, rfl⟩ := hs
  have up0 : ∀ b o, s.heap.get? b = some o → (s.heap.push { cls := .type "list", data := .seq #[] }).get? b = some o := fun b o e => Heap.get?_push_of_some _ e
  have hS0 : (s.heap.push { cls := .type "list", data := .seq #[] }).get? s.heap.objs.size = some { cls := .type "list", data := .seq #[] } := Heap.get?_push_size _ rfl
  have st0 : ZSt z TI TO i1 i2 l1 l2 s.heap.objs.size xs ys 0 (s.heap.push { cls := .type "list", data := .seq #[] }) :=
    ⟨up0 _ _ hTI, h1.at fun o e => up0 _ o e, h2.at fun o e => up0 _ o e, g1.at fun o e => up0 _ o e, g2.at fun o e => up0 _ o e, .inl ⟨up0 _ _ hz, a0, b0, up0 _ _ hTO⟩⟩
  have offS : s.heap.objs.size ∉ [z, TI, TO, i1, i2, l1, l2] := fun m => Nat.lt_irrefl _ (off _ m)
  -- from any heap that differs from this one at the list alone
  have key : ∀ (h : Heap) (c₁ tk : Nat), (∀ b o, b ≠ s.heap.objs.size → (s.heap.push { cls := .type "list", data := .seq #[] }).get? b = some o → h.get? b = some o) → h.get? s.heap.objs.size = some { cls := .type "list", data := .seq #[] c₁ } →
      codeAny (model prog w) A.in1 (.builtin "list.extend.loop" ⟨[.ref s.heap.objs.size, .ref z, .none], []⟩) (fun r s' => r = .ok (.ret .none) ∧ Q (.ref s.heap.objs.size) s') { s with heap := h, toks := tk } := fun h c₁ tk hk hS₁ =>
    zl_loop (prog := prog) (w := w) (A := A.in1) (R := fun r s' => r = .ok (.ret .none) ∧ Q (.ref s.heap.objs.size) s') (S := s.heap.objs.size) (s := s) (h₁ := s.heap) hh D us hux huy hn off .none (fun h' tk' acc c as hk' hS' hl hG hacc => ⟨rfl, hQ h' tk' acc c as (fun b o hb e => hk' b o (Nat.ne_of_lt (Heap.lt_size e)) hb e) hS' hl hG hacc⟩)
      us.length 0 h tk c₁ #[] [] (Nat.sub_zero _) (Nat.zero_le _) (st0.keep hk offS) (fun b o hb _ e => hk b o hb (up0 b o e)) hS₁ rfl rfl ⟨List.Pairwise.nil, (fun _ ha => nomatch ha), (fun j a hj => by simp at hj)⟩
  refine ⟨⟨_, hS0, rfl⟩, PySem.F.args_list_init_2 _ _, ?_⟩
  show wpAny _ _ (do let old ← Builtin.List.listItems (.ref s.heap.objs.size); Builtin.List.listUpdate (.ref s.heap.objs.size) (fun _ => #[]); letGo old.toList.reverse; Builtin.List.listExtendWith (.ref s.heap.objs.size) (.ref z) .none) _ _ _
  refine wpAny_bind ?_
  unfold Builtin.List.listItems
  refine wpAny_bind (wpAny_seqItems hS0 rfl (wpAny_pure ?_))
  show wpAny _ _ (updateSeq s.heap.objs.size (fun _ => #[]) >>= fun _ => letGo (#[] : Array Value).toList.reverse >>= fun _ => Builtin.List.listExtendWith (.ref s.heap.objs.size) (.ref z) .none) _ _ _
  refine wpAny_bind (wpAny_updateSeq hS0 rfl ?_)
  have hS2 := Heap.get?_update_self (Obj.mapSeq (fun _ => (#[] : Array Value))) hS0 rfl
  have oth : ∀ b o, b ≠ s.heap.objs.size → (s.heap.push { cls := .type "list", data := .seq #[] }).get? b = some o → ((s.heap.push { cls := .type "list", data := .seq #[] }).update s.heap.objs.size (Obj.mapSeq (fun _ => (#[] : Array Value)))).get? b = some o :=
    fun b o hb eb => (Heap.get?_update_other _ _ (Ne.symm hb)).trans eb
  (refine wpAny_bind (wpAny_letGo ?_))
  have hz2 := oth z _ offZ (up0 _ _ hz)
  have hT : Shared.TypeIs { s with heap := ((s.heap.push { cls := .type "list", data := .seq #[] }).update s.heap.objs.size (Obj.mapSeq (fun _ => (#[] : Array Value)))) } (.ref z) "zip" := ⟨_, hz2, rfl⟩
  (unfold Builtin.List.listExtendWith)
  refine wpAny_bind (wpAny_typeOf (T := "zip") hT ?_)
  have n1 : Builtin.List.listSameRef (.ref s.heap.objs.size) (.ref z) = false := by simp [Builtin.List.listSameRef, Ne.symm offZ]
  have n2 : (Value.type "zip" == Value.type "list") = false := by decide
  have n3 : (Value.type "zip" == Value.type "tuple") = false := by decide
  simp only [n1, n2, n3, Bool.or_false, Bool.false_eq_true, if_false]
  refine wpAny_bind (wpAny_pyIter_zip hz2 ?_)
  refine wpAny_bind (wpAny_holding (zl_hint hT ?_))
  refine wpAny_ite_split (fun _ => ?_) (fun q => absurd rfl q)
  (refine wpAny_bind (wpAny_rule ?_))
  refine wpAny_bind ?_
  show wpAny _ _ (updateSeq s.heap.objs.size (·.push .none) >>= fun _ => updateSeq s.heap.objs.size (·.pop)) _ _ _
  (refine wpAny_bind (wpAny_updateSeq hS2 rfl ?_))
  (have hS3 := Heap.get?_update_self (Obj.mapSeq (·.push Value.none)) hS2 rfl)
  (refine wpAny_updateSeq (hz := by seq_fits) hS3 rfl ?_)
  (have hS4 := Heap.get?_update_self (Obj.mapSeq (·.pop)) hS3 rfl)
  refine wpAny_pure ⟨plainId_quiet PySem.F.plain_extend_loop _, codeAny_mono (key _ _ _ (fun b o hb e => ?_) hS4) fun r s' hr => ?_⟩
  · exact (Heap.get?_update_other _ _ (Ne.symm hb)).trans ((Heap.get?_update_other _ _ (Ne.symm hb)).trans (oth b o hb e))
  · obtain ⟨rfl, q⟩ := hr
    exact ⟨rfl, q⟩
end
/-! ### the expression -/
def rZipL (K : PySem.W.Frag) : List V → Hp → VK → Prop := fun vs H Q => ∃ (a b : Addr) (ps : List (V × V)), vs = [.ref a, .ref b] ∧ SqL K H a (ps.map (·.1)) ∧ SqL K H b (ps.map (·.2)) ∧
  ∀ (S : Addr) (as : List Addr) (H' : Hp), Ex H H' → H S = none → as.length = ps.length → H' S = some (.lst (as.map V.ref)) → (∀ (i : Nat) (a : Addr) (p : V × V), as[i]? = some a → ps[i]? = some p → H' a = some (.tup [p.1, p.2])) → Q (.ref S) H'
def tListZip (K : PySem.W.Frag) (ta : TA) : TE := fun σ H Q => ta σ H fun vs H1 => rZipL K vs H1 Q
theorem paired_zip : ∀ {ps : List (V × V)} {u1 u2 : List Value}, Vals (ps.map (·.1)) u1 → Vals (ps.map (·.2)) u2 → Paired RelP ps (u1.zip u2) ∧ u1 = (u1.zip u2).map (·.1) ∧ u2 = (u1.zip u2).map (·.2)
  | [], _, _, .nil, .nil => ⟨.nil, rfl, rfl⟩
  | p :: ps, _, _, .cons r1 t1, .cons r2 t2 => by
    obtain ⟨h1, h2, h3⟩ := paired_zip t1 t2
    exact ⟨.cons ⟨r1, r2⟩ h1, congrArg _ h2, congrArg _ h3⟩
section
variable {X : Cx} {e e2 : Expr} {ta : TA} {p1 p2 pos pos2 : Pos}
theorem pe_listZip (hc : X.calm = true) (ha : PA X [e, e2] ta) (hg : Gl X "list") (hm : X.mg "list" = none) (hgz : Gl X "zip") (hmz : X.mg "zip" = none) (hv : bootBuiltins "list" = some (.type "list"))
    (hs : starEach [.Call (.Name "zip" p2) [e, e2] [] pos2] X.env = (false, eval (.Call (.Name "zip" p2) [e, e2] [] pos2) X.env) :: starEach [] X.env := by rfl)
    (hs2 : starEach [e, e2] X.env = (false, eval e X.env) :: starEach [e2] X.env := by rfl) (hpl : (backTo pos2 (starEach [e2] X.env)).any (·.1) = false := by rfl) :
    PE X (.Call (.Name "list" p1) [.Call (.Name "zip" p2) [e, e2] [] pos2] [] pos) (tListZip X.K ta) := by
  (refine ⟨fun pins s σ H Q I hq => ?_⟩)
  (refine wpAny_Call_Name_kw (ld_blt I hg hm hv ?_))
  (refine PyProof.Rows.callWith_type1 ?_ hs rfl)
  rw [hs]
  show wpAny _ _ (spliced ((false, eval (.Call (.Name "zip" p2) [e, e2] [] pos2) X.env) :: backTo pos (starEach [] X.env))) _ _ s
  refine Calls.spliced_cons ?_
  refine wpAny_Call_Name_kw (ld_blt I hgz hmz PyProof.Rows.boot_zip (PyProof.Rows.callWith_type1 (thn (ha.run pos2 pins s σ H _ I hq) fun us s1 ⟨vs, H1, I1, r1, q1⟩ => ?_) hs2 hpl))
  obtain ⟨a, b, ps, rfl, hqx, hqy, q⟩ := q1
  cases r1 with
  | cons ra rr =>
    cases rr with
    | cons rb rr =>
      cases rr
      cases ra
      cases rb
      obtain ⟨its, rv, g1, z1⟩ := I1.list hqx
      obtain ⟨its2, rv2, g2, z2⟩ := I1.list hqy
      obtain ⟨hpu, e1, e2⟩ := paired_zip rv rv2
      have la : a < s1.heap.objs.size := g1.lt
      have lb : b < s1.heap.objs.size := g2.lt
      have lps := Paired.length hpu
      have hz : (its.zip its2).length ≤ sizeLine := by
        rw [← lps]
        rw [List.length_map] at z1
        exact z1
      refine call_zip_2 g1.isList g2.isList fun h' hz' hTI hTO h1 h2 hsz hk => ?_
      refine Calls.spliced_nil ?_
      refine zl_call (s := { s1 with heap := h' }) (I1.ok.hd hc) (PySem.W.ktu_apart s1.heap.objs.size a b la lb) (its.zip its2) (by simpa using e1) (by simpa using e2) hz hz' hTI ⟨_, _, hTO⟩ h1 h2 (g1.isList.at fun o e => hk _ o e) (g2.isList.at fun o e => hk _ o e)
        fun h'' tk acc c as kp hS hl hG hacc => ?_
      have hk2 : ∀ b o, s1.heap.get? b = some o → h''.get? b = some o := fun b o eb => by
        have lt := Heap.lt_size eb
        refine kp b o (fun m => ?_) (hk b o eb)
        have m : b = s1.heap.objs.size + 4 ∨ b = s1.heap.objs.size + 3 ∨ b = s1.heap.objs.size ∨ b = s1.heap.objs.size + 1 := by simpa using m
        have ge : s1.heap.objs.size ≤ b := by
          rcases m with z | z | z | z <;> rw [z]
          all_goals first | exact Nat.le_add_right _ _ | exact Nat.le_refl _
        exact absurd lt (Nat.not_lt.mpr ge)
      obtain ⟨k1, k2, k3, k4, J⟩ := pairs_laid (tk := tk) I1 hz hpu hk2 (S := h'.objs.size) (by rw [hsz]; exact Nat.le_add_right _ _) hS hl hG.rise hG.above hG.at' hacc
      exact ⟨.ref h'.objs.size, _, J, rfl, q _ as _ k1 k2 (by rw [hl, ← lps]) k3 k4⟩
end
end TY

/-! lists of pairs, what is walked backwards, dicts by steps, while -/
namespace TY
open PySem PyProof.Rows PySem.Spec L2

section
variable {X : Cx}
/-- y = {k: v for ..}: the new dict is stored before the block's own variables go -/
theorem ps_setDc {n : Nat} {y : Str} {py : Pos} {kx vx tg iter : Expr} {ifs : List Expr} {scope : Scope} {own : List (Str × Nat)} {pos spos : Pos} {wi : TI} {g : TG} {tt : TT} {tk tv : TE} (hc : X.calm = true) (hN : X.N.Nodup) (hy : X.N[n]? = some y) (hyl : X.env.scope.names.lookup y = some .local)
    (hsw : swapsWith (.DictComp kx vx [⟨tg, iter, ifs, 0⟩] scope pos) (some (.Name y py)) spos.line X.env = pure true) (hi : PI X tg iter wi) (ok : BlkOk X.N X.env.scope scope own)
    (hg : ∀ (z : Shared) (H : Hp) (C : Addr) (cl : List (Str × Addr)) (fp : List Addr), PG (X.blk z H scope (compEnvC scope cl C X.env) fp) tg g) (ht : ∀ (z : Shared) (H : Hp) (C : Addr) (cl : List (Str × Addr)) (fp : List Addr), PTs (X.blk z H scope (compEnvC scope cl C X.env) fp) ifs tt)
    (hk : ∀ (z : Shared) (H : Hp) (C : Addr) (cl : List (Str × Addr)) (fp : List Addr), PE (X.blk z H scope (compEnvC scope cl C X.env) fp) kx tk)
    (hv : ∀ (z : Shared) (H : Hp) (C : Addr) (cl : List (Str × Addr)) (fp : List Addr), PE (X.blk z H scope (compEnvC scope cl C X.env) fp) vx tv) (hs : ∀ x, foldedSetIterable iter X.env x = pure x := by intro _; rfl) :
    PS X (.Assign [.Name y py] (.DictComp kx vx [⟨tg, iter, ifs, 0⟩] scope pos) spos) (tAsg (tDc wi g tt tk tv (own.map (·.2))) (gName n)) := by
  (refine ⟨fun pins s σ H D I h => ?_⟩)
  (rw [exec_Assign_Name_used _ _ _ _ hsw])
  (refine wpAny_bind (wpAny_standAt (wpAny_bind ?_)))
  show wpAny _ X.A (do let _ ← comprehension (.DictComp kx vx [⟨tg, iter, ifs, 0⟩] scope pos) scope X.env (firstIterPos [⟨tg, iter, ifs, 0⟩] pos) newDict false (eval iter X.env) (some (assign (.Name y py) X.env))) _ _ s
  have q0 : tDc wi g tt tk tv (own.map (·.2)) σ H (fun x H1 => gName n x σ H1 D.nx) := h
  refine wpAny_bind (thn (dc_core (Qf := fun _ z => SP X pins D .next z) hc hN I hi ok hg ht hk hv hs q0 fun L C z m J I' q hn f => ?_) fun _ z hq => wpAny_pure (wpAny_pure hq))
  (show wpAny _ _ (assign (.Name y py) X.env (.ref L)) _ _ _)
  (refine wpAny_assign_Name (store_ok2 (v := V.ref L) I' hN hy (.inl hyl) rfl (fun s2 I2 ⟨a, sb, ha⟩ => ?_) (.inr hyl)))
  (obtain ⟨f0, f1, f2, f3, f4, f5⟩ := f)
  have off : C ≠ a := ha.elim (fun z => z ▸ f1) fun z e => f4 y a z e.symm
  exact ⟨m, hn.sameBut sb off, fun h3 sb3 => ⟨_, J, I2.turned (t' := s2.toks) (fun b o hb e => (sb3.2 b hb).trans e) f0 f1 f3 f4 f5, q⟩⟩
theorem sw_trueD {kx vx : Expr} {gs : List Comprehension} {scope : Scope} {pos py : Pos} {y : Str} {l : Nat} {env : Env} (hk : env.scope.kind = .function) (hy : env.scope.names.lookup y = some .local) (hl : (py.line == pos.line) = true)
    (ha : (scope.names.any fun (n, k) => n == y && (k == .local || k == .cell)) = false) : swapsWith (.DictComp kx vx gs scope pos) (some (.Name y py)) l env = pure true := by
  have k1 : env.kindOf y = some .local := hy
  have k2 : env.blockKind = .function := by
    unfold Env.blockKind
    rw [hk]
    rfl
  unfold swapsWith
  simp only [k1, k2, ha, Expr.pos, hl]
  rfl
end
/-- pairs of numbers at q -/
def PairsAt (H : Hp) (q : Addr) (P : List (Nat × Nat)) : Prop := ∃ as : List Addr, as.length = P.length ∧ H q = some (.lst (as.map V.ref)) ∧ ∀ (i : Nat) (a : Addr) (s : Nat × Nat), as[i]? = some a → P[i]? = some s → H a = some (.tup [.int (s.1 : Nat), .int (s.2 : Nat)])
theorem PairsAt.ex {H H' : Hp} {q : Addr} {P : List (Nat × Nat)} (h : PairsAt H q P) (e : Ex H H') : PairsAt H' q P := by
  obtain ⟨as, h1, h2, h3⟩ := h
  exact ⟨as, h1, e _ _ h2, fun i a s e1 e2 => e _ _ (h3 i a s e1 e2)⟩
theorem PairsAt.at {K : PySem.W.Frag} {H : Hp} {q : Addr} {P : List (Nat × Nat)} {i : Nat} {s : Nat × Nat} (h : PairsAt H q P) (e : P[i]? = some s) : ∃ (xs : List V) (a : Addr), SqL K H q xs ∧ atI xs ((i : Nat) : Int) = some (.ref a) ∧ xs.length = P.length ∧ H a = some (.tup [.int (s.1 : Nat), .int (s.2 : Nat)]) := by
  obtain ⟨as, h1, h2, h3⟩ := h
  have hi : i < as.length := by
    have := (List.getElem?_eq_some_iff.mp e).1
    omega
  have ha : as[i]? = some as[i] := List.getElem?_eq_getElem hi
  exact ⟨_, as[i], .inl (.inl h2), atI_nat (by rw [List.getElem?_map, ha]; rfl), by rw [List.length_map, h1], h3 i _ s ha e⟩

theorem PairsAt.seq {K : PySem.W.Frag} {H : Hp} {q : Addr} {P : List (Nat × Nat)} (h : PairsAt H q P) : ∃ xs : List V, H q = some (.lst xs) ∧ xs.length = P.length ∧ ∀ (i : Nat) (s : Nat × Nat), P[i]? = some s → ∃ a, atI xs ((i : Nat) : Int) = some (.ref a) ∧ H a = some (.tup [.int (s.1 : Nat), .int (s.2 : Nat)]) := by
  obtain ⟨as, h1, h2, h3⟩ := h
  refine ⟨_, h2, by rw [List.length_map, h1], fun i s e => ?_⟩
  have hi : i < as.length := by
    have := (List.getElem?_eq_some_iff.mp e).1
    omega
  have ha : as[i]? = some as[i] := List.getElem?_eq_getElem hi
  exact ⟨as[i], atI_nat (by rw [List.getElem?_map, ha]; rfl), h3 i _ s ha e⟩
theorem tup_ne {H : Hp} {a q : Addr} {xs ys : List V} (ha : H a = some (.tup xs)) (hq : H q = some (.lst ys)) : a ≠ q := fun e => by
  rw [e, hq] at ha
  cases ha
/-- another list turned -/
theorem PairsAt.off {H J : Hp} {q b : Addr} {P : List (Nat × Nat)} {ys : List V} (h : PairsAt H q P) (n : q ≠ b) (hb : H b = some (.lst ys)) (k : ∀ a, a ≠ b → J a = H a) : PairsAt J q P := by
  obtain ⟨as, h1, h2, h3⟩ := h
  exact ⟨as, h1, by rw [k q n]; exact h2, fun i a s e1 e2 => by rw [k a (tup_ne (h3 i a s e1 e2) hb)]; exact h3 i a s e1 e2⟩
theorem PairsAt.push {H J : Hp} {q T : Addr} {P : List (Nat × Nat)} {s : Nat × Nat} {xs : List V} (h : PairsAt H q P) (hx : H q = some (.lst xs)) (e : J q = some (.lst (xs ++ [.ref T]))) (hT : J T = some (.tup [.int (s.1 : Nat), .int (s.2 : Nat)])) (k : ∀ a, a ≠ q → J a = H a) : PairsAt J q (P ++ [s]) := by
  obtain ⟨as, h1, h2, h3⟩ := h
  rw [h2] at hx
  obtain rfl := HO.lst.inj (Option.some.inj hx)
  refine ⟨as ++ [T], by simp [h1], by rw [e, List.map_append]; rfl, fun i a u e1 e2 => ?_⟩
  rcases Nat.lt_or_ge i as.length with hi | hi
  · rw [List.getElem?_append_left hi] at e1
    rw [List.getElem?_append_left (by omega)] at e2
    rw [k a (tup_ne (h3 i a u e1 e2) h2)]
    exact h3 i a u e1 e2
  · have := (List.getElem?_eq_some_iff.mp e1).1
    rw [List.length_append, List.length_singleton] at this
    obtain rfl : i = as.length := by omega
    obtain rfl : T = a := by simpa using e1
    rw [h1] at e2
    obtain rfl : s = u := by simpa using e2
    exact hT
theorem PairsAt.put {H J : Hp} {q T : Addr} {P : List (Nat × Nat)} {s : Nat × Nat} {xs : List V} {j : Nat} (h : PairsAt H q P) (hx : H q = some (.lst xs)) (e : J q = some (.lst (xs.set j (.ref T)))) (hT : J T = some (.tup [.int (s.1 : Nat), .int (s.2 : Nat)])) (k : ∀ a, a ≠ q → J a = H a) : PairsAt J q (P.set j s) := by
  obtain ⟨as, h1, h2, h3⟩ := h
  rw [h2] at hx
  obtain rfl := HO.lst.inj (Option.some.inj hx)
  refine ⟨as.set j T, by simp [h1], by rw [e, List.map_set], fun i a u e1 e2 => ?_⟩
  rw [List.getElem?_set] at e1 e2
  by_cases hij : j = i
  · subst hij
    rw [if_pos rfl] at e1 e2
    split at e1
    · split at e2
      · cases e1
        cases e2
        exact hT
      · cases e2
    · cases e1
  · rw [if_neg hij] at e1 e2
    rw [k a (tup_ne (h3 i a u e1 e2) h2)]
    exact h3 i a u e1 e2

section
variable {K : PySem.W.Frag} {σ : L2.St} {H : Hp} {D : Ends} {te to ty tv : TE} {tt : TT} {tb : TS} {Q : VK} {vs : List Nat} {g : TG} {v w : V}
theorem x_gT2 {R : L2.St → Hp → Prop} {T : Addr} {i j : Nat} (hT : SqT K H T [v, w]) (h : R ((σ.set i (some v)).set j (some w)) H) : gTup K 2 (gCons (gName i) (gCons (gName j) gNil)) (.ref T) σ H R :=
  ⟨T, _, rfl, hT, rfl, _, _, rfl, _, _, rfl, rfl, h⟩
def qListZip (K : PySem.W.Frag) (Q : VK) : List V → Hp → Prop := fun vs H => rZipL K vs H Q
theorem x_listZip {ta : TA} (h : ta σ H (qListZip K Q)) : tListZip K ta σ H Q := h
/-- list(zip(starts, stops)) of numbers -/
theorem x_zipN {a b : Addr} {P : List (Nat × Nat)} (ha : SqL K H a (P.map fun s => .int (s.1 : Nat))) (hb : SqL K H b (P.map fun s => .int (s.2 : Nat))) (h : ∀ q H', Ex H H' → H q = none → PairsAt H' q P → Q (.ref q) H') : qListZip K Q [.ref a, .ref b] H := by
  refine ⟨a, b, P.map fun s => (V.int (s.1 : Nat), V.int (s.2 : Nat)), rfl, by rw [List.map_map]; exact ha, by rw [List.map_map]; exact hb, fun q as H' e n hl hq hp => h q H' e n ⟨as, by rw [hl, List.length_map], hq, fun i x s e1 e2 => ?_⟩⟩
  exact hp i x _ e1 (by rw [List.getElem?_map, e2]; rfl)
/-! comprehensions over any source, the target any -/
theorem go_lcg {α : Type} {J : It} {G : Hp → Prop} {Y : Nat → Hp → V → Hp → Prop} {l : List α} {enc : α → V} (f : α → Bool) (up : α → L2.St) (v : α → V) (w : Walk J l.length G Y) (hY : ∀ i H x H', i < l.length → Y i H x H' → H' = H ∧ ∃ a, l[i]? = some a ∧ x = enc a)
    (hG : ∀ H1, Ex H H1 → G H1) (hz : l.length ≤ 1000000) (hw : ∀ a, wipe (up a) vs = wipe σ vs)
    (hg : ∀ a H1, a ∈ l → Ex H H1 → ∀ R : L2.St → Hp → Prop, R (up a) H1 → g (enc a) (wipe σ vs) H1 R)
    (ht : ∀ a H1, a ∈ l → Ex H H1 → ∀ R : Bool → Hp → Prop, (∀ H2, Ex H1 H2 → R (f a) H2) → tt (up a) H1 R)
    (he : ∀ a H1, a ∈ l → Ex H H1 → f a = true → ∀ R : VK, (∀ H2, Ex H1 H2 → R (v a) H2) → te (up a) H1 R)
    (hq : ∀ p H1, H p = none → Ex H H1 → H1 p = some (.lst ((l.filter f).map v)) → Q (.ref p) H1) : qLc J g tt te vs σ H Q := by
  intro L hL
  refine lc_it w (fun i H1 => Ex H H1 ∧ H1 L = some (.lst (((l.take i).filter f).map v))) ⟨Ex.mut (Ex.refl H) hL, upd_same⟩ (fun i H1 _ hp => hG H1 hp.1) (fun i x H1 H2 hi hp hy => ?_) (fun H1 hp => ?_)
  · obtain ⟨rfl, a, ha, rfl⟩ := hY _ _ _ _ hi hy
    have m := List.mem_of_getElem? ha
    refine hg a H2 m hp.1 _ ⟨hw _, ?_⟩
    have e2 : l.take (i + 1) = l.take i ++ [a] := by
      rw [List.take_add_one, ha]
      rfl
    refine ht a H2 m hp.1 _ fun H3 e3 => ?_
    cases hf : f a with
    | true =>
      rw [if_pos rfl]
      refine he a H3 m (hp.1.trans e3) hf _ fun H4 e4 => ?_
      refine ⟨_, e4 _ _ (e3 _ _ hp.2), ?_, Ex.mut ((hp.1.trans e3).trans e4) hL, ?_⟩
      · have h1 := List.length_filter_le f (l.take i)
        rw [List.length_map]
        rw [sizeLine_eq]
        rw [List.length_take] at h1
        omega
      · rw [upd_same, e2, List.filter_append, List.map_append, List.filter_cons, if_pos hf]
        rfl
    | false =>
      rw [if_neg (by decide)]
      refine ⟨hp.1.trans e3, ?_⟩
      rw [e3 _ _ hp.2, e2, List.filter_append, List.map_append, List.filter_cons, if_neg (by rw [hf]; decide)]
      simp
  · have h2 := hp.2
    rw [List.take_length] at h2
    exact hq L H1 hL hp.1 h2
/-- [.. for a, b in pairs] -/
theorem lc_P {q : Addr} {P : List (Nat × Nat)} {i j : Nat} (f : Nat × Nat → Bool) (v : Nat × Nat → V) (hp : PairsAt H q P) (hz : P.length ≤ 1000000)
    (hw : ∀ x y, wipe (((wipe σ vs).set i (some x)).set j (some y)) vs = wipe σ vs)
    (ht : ∀ s H1, s ∈ P → Ex H H1 → ∀ R : Bool → Hp → Prop, (∀ H2, Ex H1 H2 → R (f s) H2) → tt (((wipe σ vs).set i (some (.int (s.1 : Nat)))).set j (some (.int (s.2 : Nat)))) H1 R)
    (he : ∀ s H1, s ∈ P → Ex H H1 → f s = true → ∀ R : VK, (∀ H2, Ex H1 H2 → R (v s) H2) → te (((wipe σ vs).set i (some (.int (s.1 : Nat)))).set j (some (.int (s.2 : Nat)))) H1 R)
    (hq : ∀ p H1, H p = none → Ex H H1 → H1 p = some (.lst ((P.filter f).map v)) → Q (.ref p) H1) : qLc (Itl K q) (gTup K 2 (gCons (gName i) (gCons (gName j) gNil))) tt te vs σ H Q := by
  obtain ⟨as, h1, h2, h3⟩ := hp
  have hz2 : (as.zip P).length = P.length := by rw [List.length_zip, h1, Nat.min_self]
  have mp : (as.zip P).map (·.2) = P := List.map_snd_zip (by omega)
  have w := walk_list (K := K) (a := q) (xs := as.map V.ref)
  rw [List.length_map, h1, ← hz2] at w
  have hP : ∀ a ∈ as.zip P, H a.1 = some (.tup [.int (a.2.1 : Nat), .int (a.2.2 : Nat)]) := fun a ha => by
    obtain ⟨i, hi⟩ := List.mem_iff_getElem?.mp ha
    obtain ⟨e1, e2⟩ := List.getElem?_zip_eq_some.mp hi
    exact h3 i _ _ e1 e2
  refine go_lcg (l := as.zip P) (enc := fun a => .ref a.1) (fun a => f a.2) (fun a => ((wipe σ vs).set i (some (.int (a.2.1 : Nat)))).set j (some (.int (a.2.2 : Nat)))) (fun a => v a.2) w (fun i H x H' hi hy => ?_) (fun H1 e => .inl (.inl (e _ _ h2))) (by omega) (fun a => hw _ _)
    (fun a H1 m e R r => x_gT2 (.inl (.inl (e _ _ (hP a m)))) r) (fun a H1 m e => ht a.2 H1 (List.of_mem_zip m).2 e) (fun a H1 m e => he a.2 H1 (List.of_mem_zip m).2 e) (fun p H1 n e h => hq p H1 n e ?_)
  · obtain ⟨e1, hx⟩ := hy
    rw [List.getElem?_map] at hx
    have hi1 : i < as.length := by omega
    have hi2 : i < P.length := by omega
    rw [List.getElem?_eq_getElem hi1] at hx
    exact ⟨e1, (as[i], P[i]), List.getElem?_zip_eq_some.mpr ⟨List.getElem?_eq_getElem hi1, List.getElem?_eq_getElem hi2⟩, (Option.some.inj hx).symm⟩
  · rw [h]
    refine congrArg (fun l => some (HO.lst l)) ?_
    have e : ((as.zip P).map (·.2)).filter f = P.filter f := by rw [mp]
    rw [← e, List.filter_map, List.map_map]
    rfl
/-- [.. for span in pairs] -/
theorem lc_P1 {q : Addr} {P : List (Nat × Nat)} {i : Nat} (f : Nat × Nat → Bool) (v : Nat × Nat → V) (hp : PairsAt H q P) (hz : P.length ≤ 1000000)
    (hw : ∀ x, wipe ((wipe σ vs).set i (some x)) vs = wipe σ vs)
    (ht : ∀ s T H1, s ∈ P → Ex H H1 → H1 T = some (.tup [.int (s.1 : Nat), .int (s.2 : Nat)]) → ∀ R : Bool → Hp → Prop, (∀ H2, Ex H1 H2 → R (f s) H2) → tt ((wipe σ vs).set i (some (.ref T))) H1 R)
    (he : ∀ s T H1, s ∈ P → Ex H H1 → H1 T = some (.tup [.int (s.1 : Nat), .int (s.2 : Nat)]) → f s = true → ∀ R : VK, (∀ H2, Ex H1 H2 → R (v s) H2) → te ((wipe σ vs).set i (some (.ref T))) H1 R)
    (hq : ∀ p H1, H p = none → Ex H H1 → H1 p = some (.lst ((P.filter f).map v)) → Q (.ref p) H1) : qLc (Itl K q) (gName i) tt te vs σ H Q := by
  obtain ⟨as, h1, h2, h3⟩ := hp
  have hz2 : (as.zip P).length = P.length := by rw [List.length_zip, h1, Nat.min_self]
  have mp : (as.zip P).map (·.2) = P := List.map_snd_zip (by omega)
  have w := walk_list (K := K) (a := q) (xs := as.map V.ref)
  rw [List.length_map, h1, ← hz2] at w
  have hP : ∀ a ∈ as.zip P, H a.1 = some (.tup [.int (a.2.1 : Nat), .int (a.2.2 : Nat)]) := fun a ha => by
    obtain ⟨i, hi⟩ := List.mem_iff_getElem?.mp ha
    obtain ⟨e1, e2⟩ := List.getElem?_zip_eq_some.mp hi
    exact h3 i _ _ e1 e2
  refine go_lcg (l := as.zip P) (enc := fun a => .ref a.1) (fun a => f a.2) (fun a => (wipe σ vs).set i (some (.ref a.1))) (fun a => v a.2) w (fun i H x H' hi hy => ?_) (fun H1 e => .inl (.inl (e _ _ h2))) (by omega) (fun a => hw _)
    (fun a H1 m e R r => r) (fun a H1 m e => ht a.2 a.1 H1 (List.of_mem_zip m).2 e (e _ _ (hP a m))) (fun a H1 m e => he a.2 a.1 H1 (List.of_mem_zip m).2 e (e _ _ (hP a m))) (fun p H1 n e h => hq p H1 n e ?_)
  · obtain ⟨e1, hx⟩ := hy
    rw [List.getElem?_map] at hx
    have hi1 : i < as.length := by omega
    have hi2 : i < P.length := by omega
    rw [List.getElem?_eq_getElem hi1] at hx
    exact ⟨e1, (as[i], P[i]), List.getElem?_zip_eq_some.mpr ⟨List.getElem?_eq_getElem hi1, List.getElem?_eq_getElem hi2⟩, (Option.some.inj hx).symm⟩
  · rw [h]
    refine congrArg (fun l => some (HO.lst l)) ?_
    have e : ((as.zip P).map (·.2)).filter f = P.filter f := by rw [mp]
    rw [← e, List.filter_map, List.map_map]
    rfl
/-- backwards -/
theorem rev_get {α : Type} {l : List α} {i : Nat} (h : i < l.length) : l.reverse[i]? = l[l.length - 1 - i]? := List.getElem?_reverse h
theorem lc_V {α : Type} {q : Addr} {l : List α} {enc : α → V} {j : Nat} (f : α → Bool) (v : α → V) (hp : SqL K H q (l.map enc)) (hz : l.length ≤ 1000000)
    (hw : ∀ x, wipe ((wipe σ vs).set j (some x)) vs = wipe σ vs)
    (ht : ∀ a H1, a ∈ l → Ex H H1 → ∀ R : Bool → Hp → Prop, (∀ H2, Ex H1 H2 → R (f a) H2) → tt ((wipe σ vs).set j (some (enc a))) H1 R)
    (he : ∀ a H1, a ∈ l → Ex H H1 → f a = true → ∀ R : VK, (∀ H2, Ex H1 H2 → R (v a) H2) → te ((wipe σ vs).set j (some (enc a))) H1 R)
    (hq : ∀ p H1, H p = none → Ex H H1 → H1 p = some (.lst ((l.reverse.filter f).map v)) → Q (.ref p) H1) : qLc (Itv K q (l.map enc).length) (gName j) tt te vs σ H Q := by
  have w := walk_rev (K := K) (a := q) (xs := l.map enc)
  have hlen : l.reverse.length = (l.map enc).length := by simp
  rw [← hlen] at w ⊢
  refine go_lcg (l := l.reverse) (enc := enc) f (fun a => (wipe σ vs).set j (some (enc a))) v w (fun i H x H' hi hy => ?_) (fun H1 e => e.sqL hp) (by simpa using hz) (fun a => hw _) (fun a H1 _ _ R r => r)
    (fun a H1 m e => ht a H1 (by simpa using m) e) (fun a H1 m e => he a H1 (by simpa using m) e) hq
  obtain ⟨e1, hx⟩ := hy
  rw [hlen] at hi hx
  rw [← rev_get hi, ← List.map_reverse, List.getElem?_map] at hx
  cases y : l.reverse[i]? with
  | none => rw [y] at hx; cases hx
  | some a => rw [y] at hx; exact ⟨e1, a, rfl, (Option.some.inj hx).symm⟩
/-- a for backwards: what is done, what is left, in the order of the walk -/
theorem for_V {α : Type} {p : Addr} {l : List α} {enc : α → V} {j : Nat} (Pv : List α → List α → L2.St → Hp → Prop) (h0 : Pv [] l.reverse σ H) (hG : ∀ q r σ H, Pv q r σ H → SqL K H p (l.map enc))
    (hs : ∀ q a r σ H, l.reverse = q ++ a :: r → Pv q (a :: r) σ H → tb { D with nx := Pv (q ++ [a]) r, ct := Pv (q ++ [a]) r, bk := D.nx } (σ.set j (some (enc a))) H)
    (hd : ∀ σ H, Pv l.reverse [] σ H → D.nx σ H) : qFor (Itv K p (l.map enc).length) (gName j) tb D σ H := by
  have w := walk_rev (K := K) (a := p) (xs := l.map enc)
  have hlen : l.reverse.length = (l.map enc).length := by simp
  rw [← hlen] at w ⊢
  refine go_for (l := l.reverse) (enc := enc) (w.mono (Y' := fun i H x H' => i < l.reverse.length ∧ (H' = H ∧ (l.map enc)[l.reverse.length - 1 - i]? = some x)) (fun _ h => h) fun i H x H' hi _ y => ⟨hi, y⟩) (fun i H x H' hy => ?_) Pv h0 hG hs hd
  obtain ⟨hi, e1, hx⟩ := hy
  rw [hlen] at hi hx
  rw [← rev_get hi, ← List.map_reverse, List.getElem?_map] at hx
  cases y : l.reverse[i]? with
  | none => rw [y] at hx; cases hx
  | some a => rw [y] at hx; exact ⟨e1, a, rfl, (Option.some.inj hx).symm⟩
def qRev (K : PySem.W.Frag) (R : It → Hp → Prop) : List V → Hp → Prop := fun vs H1 => ∃ (a : Addr) (xs : List V), vs = [.ref a] ∧ SqL K H1 a xs ∧ R (Itv K a xs.length) H1
theorem x_iRev {ta : TA} {R : It → Hp → Prop} (h : ta σ H (qRev K R)) : iRev K ta σ H R := h
theorem x_qRev {p : Addr} {xs : List V} {R : It → Hp → Prop} (hp : SqL K H p xs) (h : R (Itv K p xs.length) H) : qRev K R [.ref p] H := ⟨p, xs, rfl, hp, h⟩
/-! dicts -/
theorem x_dnew {Q : VK} (h : ∀ p H', H p = none → Ex H H' → H' p = some (.dK []) → Q (.ref p) H') : tDNewK σ H Q := fun p hp => h p _ hp ((Ex.refl H).new hp) upd_same
def qDGet (Q : VK) (x : V) : VK := fun y H2 => ∃ a v, x = .ref a ∧ DGet H2 a y (some v) ∧ Q v H2
theorem x_dget (h : to σ H fun x H1 => ty σ H1 (qDGet Q x)) : tDGet to ty σ H Q := h
theorem x_qDGetS {a : Addr} {kvs : List (Key × V)} {l : List Nat} (hd : H a = some (.dK kvs)) (hv : valV kvs (.inr (st l)) = some v) (h : Q v H) : qDGet Q (.ref a) (S l) H := ⟨a, v, rfl, by rw [← hv]; exact DGet.k (k := .inr (st l)) hd, h⟩
theorem x_qDGetI {a : Addr} {kvs : List (Key × V)} {n : Int} (hd : H a = some (.dK kvs)) (hv : valV kvs (.inl n) = some v) (h : Q v H) : qDGet Q (.ref a) (.int n) H := ⟨a, v, rfl, by rw [← hv]; exact DGet.k (k := .inl n) hd, h⟩
def qDPut (D : Ends) (σ : L2.St) (v x : V) : VK := fun y H3 => ∃ a H4, x = .ref a ∧ DPut H3 a y v H4 ∧ D.nx σ H4
theorem x_dput (h : tv σ H fun v H1 => to σ H1 fun x H2 => ty σ H2 (qDPut D σ v x)) : sDPut to ty tv D σ H := h
theorem x_qDPutS {a : Addr} {kvs : List (Key × V)} {l : List Nat} (hd : H a = some (.dK kvs)) (hz : kvs.length ≤ 1000000) (h : ∀ H', H' a = some (.dK (putK kvs (.inr (st l)) v)) → (∀ b, b ≠ a → H' b = H b) → D.nx σ H') : qDPut D σ v (.ref a) (S l) H :=
  ⟨a, _, rfl, DPut.k (k := .inr (st l)) hd (Nat.lt_of_le_of_lt hz (by decide)), h _ upd_same fun b n => upd_ne n⟩
/-! a comprehension that makes a dict, over pairs of numbers -/
theorem x_dc {wi : TI} {tk tv : TE} (h : wi σ H fun J H1 => tDc (fun _ H R => R J H) g tt tk tv vs σ H1 Q) : tDc wi g tt tk tv vs σ H Q := h
theorem dc_it {J : It} {n : Nat} {G : Hp → Prop} {Y : Nat → Hp → V → Hp → Prop} (w : Walk J n G Y) {g : TG} {tt : TT} {tk tv : TE} {vs : List Nat} {σ : L2.St} {H1 : Hp} {D : Addr} {Qd : Hp → Prop} (Pv : Nat → Hp → Prop) (h0 : Pv 0 (upd H1 D (.dK []))) (hG : ∀ i H, i ≤ n → Pv i H → G H)
    (hs : ∀ i x H J', i < n → Pv i H → Y i H x J' → g x (wipe σ vs) J' fun σ2 H2 => wipe σ2 vs = wipe σ vs ∧ tt σ2 H2 fun b H3 =>
      if b = true then tk σ2 H3 fun u H4 => tv σ2 H4 fun z H5 => ∃ kvs k, u = kV k ∧ H5 D = some (.dK kvs) ∧ kvs.length < sizeLine ∧ Pv (i + 1) (upd H5 D (.dK (putK kvs k z))) else Pv (i + 1) H3) (hd : ∀ H, Pv n H → Qd H) :
    ∃ W : Nat → Nat → Hp → Prop, (∃ n, W 0 n (upd H1 D (.dK []))) ∧ ∀ i m H, W i m H →
      (J.stop i H ∧ Qd H) ∨ (J.go i H ∧ ∃ Nx : Hp → Prop, (∀ L, Nx L → ∃ m', m' < m ∧ W (i + 1) m' L) ∧ ∀ x L, J.yld i H x L → g x (wipe σ vs) L fun σ2 H2 => wipe σ2 vs = wipe σ vs ∧ tt σ2 H2 fun b H3 =>
        if b = true then tk σ2 H3 fun u H4 => tv σ2 H4 fun z H5 => ∃ kvs k, u = kV k ∧ H5 D = some (.dK kvs) ∧ kvs.length < sizeLine ∧ Nx (upd H5 D (.dK (putK kvs k z))) else Nx H3) := by
  refine ⟨fun i m H => m + i = n ∧ Pv i H, ⟨n, Nat.add_zero n, h0⟩, ?_⟩
  rintro i m H ⟨hm, p⟩
  have q := hG i H (by omega) p
  rcases Nat.lt_or_ge i n with hlt | hge
  · exact .inr ⟨w.goes i H hlt q, Pv (i + 1), fun H' p' => ⟨m - 1, by omega, by omega, p'⟩, fun x H' y => hs i x H H' hlt p (w.yields i H x H' hlt q y)⟩
  · obtain rfl : i = n := by omega
    (exact .inl ⟨w.stops H q, hd H p⟩)
/-- {a: b for a, b in pairs}, the keys all different -/
theorem dc_P {q : Addr} {P : List (Nat × Nat)} {i j : Nat} (hp : PairsAt H q P) (hz : P.length ≤ 1000000) (nd : (P.map (·.1)).Nodup)
    (hw : ∀ x y, wipe (((wipe σ vs).set i (some x)).set j (some y)) vs = wipe σ vs) (gi : ∀ x y, (((wipe σ vs).set i (some x)).set j (some y))[i]? = some (some x)) (gj : ∀ x y, (((wipe σ vs).set i (some x)).set j (some y))[j]? = some (some y))
    (hq : ∀ p H1 kvs, H p = none → Ex H H1 → H1 p = some (.dK kvs) → (∀ s ∈ P, valV kvs (.inl (s.1 : Nat)) = some (.int (s.2 : Nat))) → Q (.ref p) H1) :
    tDc (fun _ H R => R (Itl K q) H) (gTup K 2 (gCons (gName i) (gCons (gName j) gNil))) tYes (tVar i) (tVar j) vs σ H Q := by
  obtain ⟨as, h1, h2, h3⟩ := hp
  intro D hD
  have w := walk_list (K := K) (a := q) (xs := as.map V.ref)
  rw [List.length_map, h1] at w
  refine dc_it w (fun n H1 => Ex H H1 ∧ ∃ kvs, H1 D = some (.dK kvs) ∧ kvs.length ≤ n ∧ ∀ s ∈ P.take n, valV kvs (.inl (s.1 : Nat)) = some (.int (s.2 : Nat))) ⟨Ex.mut (Ex.refl H) hD, [], upd_same, Nat.le_refl _, fun s hs => by simp at hs⟩ (fun n H1 _ hp => .inl (.inl (hp.1 _ _ h2))) (fun n x H1 H2 hn hp hy => ?_) (fun H1 hp => ?_)
  · obtain ⟨rfl, hx⟩ := hy
    obtain ⟨e1, kvs, hk, hl, hv⟩ := hp
    have hi1 : n < as.length := by omega
    rw [List.getElem?_map, List.getElem?_eq_getElem hi1] at hx
    obtain rfl := (Option.some.inj hx).symm
    have ht := h3 n _ _ (List.getElem?_eq_getElem hi1) (List.getElem?_eq_getElem hn)
    refine x_gT2 (.inl (.inl (e1 _ _ ht))) ⟨hw _ _, ?_⟩
    refine x_yes ?_
    rw [if_pos rfl]
    refine x_var (gi _ _) (x_var (gj _ _) ⟨kvs, .inl (P[n].1 : Nat), rfl, hk, Nat.lt_of_le_of_lt (Nat.le_trans hl (by omega : n ≤ 1000000)) (by decide), Ex.mut e1 hD, _, upd_same, ?_, ?_⟩)
    · have := length_putK kvs (.inl (P[n].1 : Nat)) (.int (P[n].2 : Nat))
      omega
    · intro s hs
      rw [List.take_add_one, List.getElem?_eq_getElem hn] at hs
      rw [valV_put]
      rcases List.mem_append.mp hs with m | m
      · have ne : ¬ s.1 = P[n].1 := fun e => by
          obtain ⟨k, hk'⟩ := List.mem_iff_getElem?.mp m
          have hkn : k < n := by
            have := (List.getElem?_eq_some_iff.mp hk').1
            rw [List.length_take] at this
            omega
          rw [List.getElem?_take, if_pos hkn] at hk'
          have a1 : (P.map (·.1))[k]? = some P[n].1 := by rw [List.getElem?_map, hk', ← e]; rfl
          have a2 : (P.map (·.1))[n]? = some P[n].1 := by rw [List.getElem?_map, List.getElem?_eq_getElem hn]; rfl
          have := (List.getElem?_inj (by simpa using (by omega : k < P.length)) nd).mp (a1.trans a2.symm)
          omega
        rw [if_neg (fun e => ne (by injection e with e; omega))]
        exact hv s m
      · obtain rfl : s = P[n] := by simpa using m
        rw [if_pos rfl]
  · obtain ⟨e1, kvs, hk, _, hv⟩ := hp
    rw [List.take_length] at hv
    exact hq D H1 kvs hD e1 hk hv
/-! while -/
def qBody (tb : TS) (D : Ends) (Pv : Nat → L2.St → Hp → Prop) (m : Nat) (σ : L2.St) (H : Hp) : Prop := ∃ N : L2.St → Hp → Prop, (∀ σ' H', N σ' H' → ∃ m', m' < m ∧ Pv m' σ' H') ∧ tb { D with nx := N, ct := N, bk := D.nx } σ H
theorem x_wh {c : TT} (Pv : Nat → L2.St → Hp → Prop) (m : Nat) (h0 : Pv m σ H) (hs : ∀ m σ H, Pv m σ H → c σ H fun b H1 => if b = true then qBody tb D Pv m σ H1 else D.nx σ H1) : tWhile c tb D σ H := ⟨Pv, ⟨m, h0⟩, hs⟩
theorem x_body {Pv : Nat → L2.St → Hp → Prop} {m : Nat} (h : tb { D with nx := fun σ' H' => ∃ m', m' < m ∧ Pv m' σ' H', ct := fun σ' H' => ∃ m', m' < m ∧ Pv m' σ' H', bk := D.nx } σ H) : qBody tb D Pv m σ H := ⟨_, fun _ _ q => q, h⟩
theorem x_isiS {l : List Nat} {T : String} {b : Bool} (hk : PySem.W.kitOne K (.type "str") (.type T) = some b) (h : Q (.bl b) H) : rIsi K [S l, .ty T] H Q := ⟨S l, .ty T, .type "str", .type T, b, rfl, .ty T, .base (.str _), hk, h⟩
theorem x_isiL {p : Addr} {xs : List V} {T : String} {b : Bool} (hp : H p = some (.lst xs)) (hk : PySem.W.kitOne K (.type "list") (.type T) = some b) (h : Q (.bl b) H) : rIsi K [.ref p, .ty T] H Q := ⟨.ref p, .ty T, .type "list", .type T, b, rfl, .ty T, .base (.lst hp), hk, h⟩
theorem cutN_both (l : List Nat) (a b : Nat) : cutN l (some (a : Int)) (some (b : Int)) = (l.take b).drop a := by
  unfold cutN
  rw [HT.sIx_nat, HT.sIx_nat, List.drop_take]
  by_cases ha : a ≤ l.length
  · rw [Nat.min_eq_left ha]
    by_cases hb : b ≤ l.length
    · rw [Nat.min_eq_left hb]
    · rw [Nat.min_eq_right (by omega), List.take_of_length_le (by rw [List.length_drop]; omega), List.take_of_length_le (by rw [List.length_drop]; omega)]
  · rw [Nat.min_eq_right (show l.length ≤ a by omega), List.drop_of_length_le (Nat.le_refl _), List.drop_of_length_le (show l.length ≤ a by omega)]
    simp
/-! where a sign stands first in a text -/
def posOf (l : List Nat) (c : Nat) : Nat := (Builtin.Str.occurrences (st l) (st [c]) 0 (st l).length 1).headD 0
theorem posOf_occ {l : List Nat} {c : Nat} (h : c ∈ l) : ∃ r, Builtin.Str.occurrences (st l) (st [c]) 0 (st l).length 1 = posOf l c :: r := by
  have q := StrLaws.found_one (st l) c
  rw [st_cps, decide_eq_true h, st_one] at q
  unfold posOf
  cases e : Builtin.Str.occurrences (st l) (st [c]) 0 (st l).length 1 with
  | nil => rw [e] at q; cases q
  | cons i r => exact ⟨r, rfl⟩
theorem posOf_get {l : List Nat} {c : Nat} (h : c ∈ l) : l[posOf l c]? = some c := by
  obtain ⟨r, e⟩ := posOf_occ h
  obtain ⟨h1, h2⟩ := StrLaws.occ_spec (st l) (st [c]) 0 (st l).length 1 (posOf l c) (by rw [e]; exact List.mem_cons_self)
  rw [StrLaws.subAt_eq, st_cps, st_cps, st_len] at h2
  have h2 : (l.drop (posOf l c)).take 1 = [c] := by simpa using h2
  have h3 : (l.drop (posOf l c))[0]? = some c := by
    have := congrArg (fun z : List Nat => z[0]?) h2
    simpa [List.getElem?_take] using this
  simpa using h3
def qIndex : V → List V → Hp → VK → Prop := fun x xs H Q => ∃ a b i rest, x = .str a ∧ xs = [.str b] ∧ Builtin.Str.occurrences a b 0 a.length 1 = i :: rest ∧ Q (.int (i : Nat)) H
theorem l_index (h : tM1 qIndex to te σ H Q) : tM1 (fun x xs H Q => ∃ a b i rest, x = .str a ∧ xs = [.str b] ∧ Builtin.Str.occurrences a b 0 a.length 1 = i :: rest ∧ Q (.int (i : Nat)) H) to te σ H Q := h
theorem x_index {l : List Nat} {c : Nat} (h : c ∈ l) (q : Q (.int (posOf l c : Nat)) H) : qIndex (S l) [S [c]] H Q := by
  obtain ⟨r, e⟩ := posOf_occ h
  exact ⟨st l, st [c], _, r, rfl, rfl, e, q⟩
end
end TY

/-! text.replace(sign, text + sign) where a token is out; what is built around it -/
namespace TY
open PySem PyProof.Rows PySem.Spec L2 CwR

def tReplA (to te : TE) (y z : Str) : TE := fun σ H Q => to σ H fun v H1 => ∃ x, v = .str x ∧ te σ H1 fun u H2 => ∃ w, u = .str w ∧ 1 ≤ w.length ∧ 1 ≤ z.length ∧ w.length + z.length ≤ 1000 ∧ x.length + (x.length + 1) * (w.length + z.length) ≤ 16777216 ∧ (y == w ++ z) = false ∧ Q (.str (Txt.replace x y (w ++ z))) H2
section
variable {X : Cx} {o e f a b : Expr} {to te tf ta tb : TE} {y z : Str} {j k : Nat} {c0 c1 apos bpos pos : Pos}
theorem pet_replA (ho : PE X o to) (he : PE X e te)
    (hst : starEach [.Constant (.str y) j c0, .BinOp e .Add (.Constant (.str z) k c1) bpos] X.env = [(false, eval (.Constant (.str y) j c0) X.env), (false, eval (.BinOp e .Add (.Constant (.str z) k c1) bpos) X.env)] := by rfl)
    (hbase : attributeBase o "replace" X.env (eval o X.env) = eval o X.env := by rfl)
    (hline : (apos.endLine == pos.line) = true := by rfl) :
    PET X (.Call (.Attribute o "replace" apos) [.Constant (.str y) j c0, .BinOp e .Add (.Constant (.str z) k c1) bpos] [] pos) (tReplA to te y z) := by
  intro pins s σ H Q h0 I h
  (refine PySem.Call_method2 hbase hst hline (wpAny_mono (PySem.wpAny_toks (ho.run pins s σ H _ I h)) (fun v s1 q => ?_) fun _ _ z => z.2))
  obtain ⟨hk, v', H1, I1, r1, x, e1, q⟩ := q
  subst e1
  obtain ⟨tx, e2⟩ := r1
  subst e2
  (refine ⟨"str", _, PySem.F.plainAttrs_str, PySem.F.slot_str_replace, PySem.F.type_str_replace, typeIs_str _ _ _, (fun _ e => nomatch e), Calls.callWith_builtin rfl (Calls.evalArgs_plain (Calls.spliced_cons ?_))⟩)
  refine Calls.Constant_str (Calls.spliced_cons ?_)
  refine wpAny_BinOp (wpAny_mono (PySem.wpAny_toks (he.run pins _ σ H1 _ (I1.tok _) q)) (fun u s2 q2 => ?_) fun _ _ z => z.2)
  obtain ⟨hk2, u', H2, I2, r2, w, e3, w1, z1, wz, hb, ne, q3⟩ := q2
  subst e3
  obtain ⟨tw, e4⟩ := r2
  subst e4
  have hk2 : s1.toks + 1 ≤ s2.toks := hk2
  have lw : (w.length == 0) = false := by rw [beq_eq_false_iff_ne]; omega
  have lz : (z.length == 0) = false := by rw [beq_eq_false_iff_ne]; omega
  refine Calls.Constant_str (PySem.P.add_str ?_)
  rw [lw, if_neg Bool.false_ne_true, lz, if_neg Bool.false_ne_true]
  have la : (w ++ z).length = w.length + z.length := by
    show (w.cps ++ z.cps).size = w.cps.size + z.cps.size
    simp
  refine ⟨by show (w ++ z).length ≤ sizeLine; rw [la, sizeLine_eq]; omega, Calls.spliced_nil ?_⟩
  exact PySem.SC.replace (by show s1.toks ≠ 0; omega) (by show s2.toks + 1 ≠ 0; omega) (by show s1.toks ≠ s2.toks + 1; omega) ne (by rw [la]; exact hb) fun t' k => ⟨.str _, H2, I2.tok k, ⟨t', rfl⟩, q3⟩
theorem pet_cmpR {op : CmpOp} {r : R2} (ho : OpR X (compareOp op) r) (ha : PE X a ta) (hb : PET X b tb) (hm : behindInMarks op b = false) : PET X (.Compare a [op] [b] pos) (tOp r ta tb) := by
  intro pins s σ H Q h0 I h
  refine wpAny_Compare1 (wpAny_mono (PySem.wpAny_toks (ha.run pins s σ H _ I h)) (fun v s1 q => ?_) fun _ _ z => z.2) hm
  (obtain ⟨hk, x, H1, I1, r1, q1⟩ := q)
  (exact thn (hb pins s1 σ H1 _ (Nat.le_trans h0 hk) I1 q1) fun u s2 ⟨y, H2, I2, r2, q2⟩ => ho pins s2 σ H2 x y v u Q I2 r1 r2 q2)
theorem pet_and {rest : List Expr} (ha : PET X a ta) (hb : PE X (.BoolOp .And (b :: rest) pos) tb) : PET X (.BoolOp .And (a :: b :: rest) pos) (tAndV ta tb) := by
  intro pins s σ H Q h0 I h
  refine BoolOp_and (thn (ha pins s σ H _ h0 I h) fun v s1 ⟨x, H1, I1, r1, q1⟩ => ?_)
  obtain ⟨c, rfl, q1⟩ := q1
  cases r1
  refine wpAny_truthy_bool ?_
  cases c with
  | false => exact ⟨V.bl false, H1, I1, rfl, q1⟩
  | true => exact (hb.run pins s1 σ H1 Q I1 q1)
theorem pat_cons {es : List Expr} {t : TA} (ha : PET X e te) (hr : PA X es t) (hs : starEach (e :: es) X.env = (false, eval e X.env) :: starEach es X.env := by rfl) : PAT X (e :: es) (tCons te t) := by
  intro pos pins s σ H Q h0 I h
  rw [hs]
  (show wpAny _ _ (spliced ((false, eval e X.env) :: backTo pos (starEach es X.env))) _ _ s)
  refine Calls.spliced_cons (thn (ha pins s σ H _ h0 I h) fun u s1 ⟨x, H1, I1, r1, q1⟩ => ?_)
  (exact thn (hr.run pos pins s1 σ H1 _ I1 q1) fun us s2 ⟨xs, H2, I2, r2, q2⟩ => ⟨x :: xs, H2, I2, .cons r1 r2, q2⟩)
theorem pat_cons0 {es : List Expr} {t : TA} (ha : PE X e te) (hr : PAT X es t) (hs : starEach (e :: es) X.env = (false, eval e X.env) :: starEach es X.env := by rfl) : PAT X (e :: es) (tCons te t) := by
  intro pos pins s σ H Q h0 I h
  rw [hs]
  (show wpAny _ _ (spliced ((false, eval e X.env) :: backTo pos (starEach es X.env))) _ _ s)
  refine Calls.spliced_cons (wpAny_mono (PySem.wpAny_toks (ha.run pins s σ H _ I h)) (fun u s1 q => ?_) fun _ _ z => z.2)
  (obtain ⟨hk, x, H1, I1, r1, q1⟩ := q)
  (exact thn (hr pos pins s1 σ H1 _ (Nat.le_trans h0 hk) I1 q1) fun us s2 ⟨xs, H2, I2, r2, q2⟩ => ⟨x :: xs, H2, I2, .cons r1 r2, q2⟩)
theorem pet_tup {es : List Expr} {t : TA} {x1 : Nat} (h : PAT X es t) : PET X (.Tuple es x1 pos) (tTup t) := by
  intro pins s σ H Q h0 I hq
  refine wpAny_Tuple_spliced (thn (h pos pins s σ H _ h0 I hq) fun us s1 ⟨xs, H1, I1, r, z, q⟩ => ⟨by rw [← r.length]; exact z, ?_⟩)
  (have hf : H1 s1.heap.objs.size = none := I1.hok.fresh (Nat.le_refl _))
  (refine ⟨.ref s1.heap.objs.size, upd H1 s1.heap.objs.size (.tup xs), I1.laid (t' := s1.toks) (fun b u e => Heap.get?_push_of_some _ e) (Nat.le_refl _) ?_, rfl, q _ hf⟩)
  (exact ⟨z, us, r, ⟨_, Heap.get?_push_size _ rfl, rfl, _, rfl⟩⟩)
end
/-! the text itself: every sign c becomes z -/
def replC (c : Nat) (z : List Nat) (l : List Nat) : List Nat := l.flatMap fun x => if x = c then z else [x]
theorem replL_one (c : Nat) (z : List Nat) : ∀ l : List Nat, StrLaws.replL [c] z l = replC c z l
  | [] => StrLaws.replL_nil
  | x :: r => by
    unfold replC
    rw [List.flatMap_cons]
    by_cases h : x = c
    · rw [if_pos h, StrLaws.replL_hit (by simp) (by simp [h])]
      have e := replL_one c z r
      unfold replC at e
      simpa using congrArg (fun m => z ++ m) e
    · rw [if_neg h, StrLaws.replL_miss (by simpa using h)]
      have e := replL_one c z r
      unfold replC at e
      rw [e]
      rfl
theorem replace_st (l z : List Nat) (c : Nat) : Txt.replace (st l) (st [c]) (st z) = st (replC c z l) := by
  rw [st_of (Txt.replace (st l) (st [c]) (st z))]
  refine congrArg st ?_
  rw [StrLaws.replace_list (by rw [st_len]; exact Nat.le_refl 1), st_cps, st_cps, st_cps, replL_one]
theorem replC_len (c : Nat) (z : List Nat) : ∀ l : List Nat, (replC c z l).length ≤ l.length * (z.length + 1)
  | [] => by simp [replC]
  | x :: r => by
    have h := replC_len c z r
    unfold replC at h ⊢
    rw [List.flatMap_cons, List.length_append, List.length_cons, Nat.add_mul]
    by_cases e : x = c
    · rw [if_pos e]; omega
    · rw [if_neg e, List.length_singleton]; omega
section
variable {σ : L2.St} {H : Hp} {Q : VK} {to te : TE} {y z : Str}
def qReplA (te : TE) (y z : Str) (σ : L2.St) (Q : VK) : VK := fun v H1 => ∃ x, v = .str x ∧ te σ H1 fun u H2 => ∃ w, u = .str w ∧ 1 ≤ w.length ∧ 1 ≤ z.length ∧ w.length + z.length ≤ 1000 ∧ x.length + (x.length + 1) * (w.length + z.length) ≤ 16777216 ∧ (y == w ++ z) = false ∧ Q (.str (Txt.replace x y (w ++ z))) H2
theorem x_replA (h : to σ H (qReplA te y z σ Q)) : tReplA to te y z σ H Q := h
/-- text.replace(c, w + d): signs c, d, a name's text w of one sign -/
theorem x_qReplA {l : List Nat} {c d w i : Nat} (hy : y = st [c]) (hz : z = st [d]) (hl : l.length ≤ 1000000) (he : σ[i]? = some (some (S [w]))) (q : Q (S (replC c [w, d] l)) H) : qReplA (tVar i) y z σ Q (S l) H := by
  subst hy hz
  refine ⟨st l, rfl, x_var he ⟨st [w], rfl, by rw [st_len]; exact Nat.le_refl 1, by rw [st_len]; exact Nat.le_refl 1, by rw [st_len, st_len]; simp, ?_, ?_, ?_⟩⟩
  · rw [st_len, st_len, st_len]
    show l.length + (l.length + 1) * (1 + 1) ≤ _
    omega
  · rw [st_app, beq_eq_false_iff_ne]
    intro e
    have := st_inj e
    simp at this
  · rw [st_app, replace_st]
    exact q
end
theorem okT {CX : CXT} {P : Program} {w : World} {K : PySem.W.Frag} {mg : Str → Option Value} {base : Heap} {x qual : Str} {stm : Stmt} {f : Addr} {fd : FuncData} {N ps : List Str} {k : Nat} {sp : Sp} (F : Fun K x qual stm f fd) (S : FnScope N ps (defScope stm))
    (hnc : ∀ y ∈ (defScope stm).names, y.2 ≠ .cell) (hps : 1 ≤ ps.length) (len : ∀ us H Q E, sp us H Q E → us.length = ps.length)
    (hbody : ∀ (cdv : Value) (A : Around) (outer : List Env) (s : Shared) (H : Hp) (us : List V) (Q : VK) (E : XK), Room k (A.deeper (envOfC qual (defScope stm) s.heap.objs.size f cdv)) → sp us H Q E →
      ∃ t, PSsT (cxOf CX P w K mg base N qual (defScope stm) f cdv A outer s H E) (defBody stm) t ∧ t { nx := fun _ J => Q .non J, rt := Q } (L2.start N us) H) : FnOk P w K mg base CX (k + 1) f fd ps sp := by
  (obtain ⟨oc, od, kV, doc, pm, an, cdv, ct, osl, rfl, lk, hcd⟩ := F.ex)
  exact fn_ofT lk hcd S hnc hps len fun A outer s H us Q E hr hsp => hbody cdv A outer s H us Q E hr hsp
/-! an __init__ that lays two fields -/
def spI2 (C : Addr) (f g : Str) : Sp := fun vs H Q _ => ∃ (a : Addr) (x y : V), vs = [.ref a, x, y] ∧ H a = some (exo a C none) ∧ ∀ dx, H dx = none → dx ≠ a → Q .non (upd (upd (upd H dx (exd dx [(f, x)])) a (exo a C (some dx))) dx (exd dx [(g, y), (f, x)]))
theorem x_mk2 {C : Addr} {f g : Str} {x y : V} {H : Hp} {Q : XK} (h : ∀ d H', H d = none → Ex H H' → H' d = some (.xd [(g, y), (f, x)]) → Q (.ref C) (some d) H') : qMkO C (spI2 C f g) [] Q [x, y] H := by
  refine ⟨by simp, fun a ha => ⟨a, x, y, rfl, upd_same, fun dx hd ne => ⟨rfl, dx, [(g, y), (f, x)], ?_, upd_same, ?_, ?_⟩⟩⟩
  · rw [upd_ne ne.symm, upd_same]
  · rw [upd_ne ne] at hd
    exact hd
  · rw [upd_ne ne] at hd
    refine h dx _ hd (fun b o hb => ?_) upd_same
    have n1 : b ≠ dx := ne_of_none hb hd
    have n2 : b ≠ a := ne_of_none hb ha
    rw [upd_ne n1, del_ne n2, upd_ne n1, upd_ne n2, upd_ne n1, upd_ne n2]
    exact hb
end TY

/-! xs[-2::-1]; split where a token is out; lists of tuples; enumerate of a list; sorted texts; list(dict) -/
namespace TY
open PySem PyProof.Rows PySem.Spec L2 CwR

/-! ### xs[-2::-1] -/
theorem rev_pick {α : Type} : ∀ (r : List α) (t : List α), (List.range r.length).filterMap (fun k => (r.reverse ++ t)[r.length - 1 - k]?) = r
  | [], t => rfl
  | a :: r, t => by
    rw [List.length_cons, List.range_succ_eq_map, List.filterMap_cons, List.filterMap_map]
    have e0 : ((a :: r).reverse ++ t)[r.length + 1 - 1 - 0]? = some a := by
      rw [List.reverse_cons, List.append_assoc, List.getElem?_append_right (by simp)]
      simp
    rw [e0]
    have ih := rev_pick r (a :: t)
    refine congrArg (fun l => a :: l) ?_
    refine Eq.trans ?_ ih
    refine congrArg (fun f => List.filterMap f (List.range r.length)) ?_
    funext k
    show ((a :: r).reverse ++ t)[r.length + 1 - 1 - (k + 1)]? = _
    rw [List.reverse_cons, List.append_assoc, List.singleton_append, show r.length + 1 - 1 - (k + 1) = r.length - 1 - k by omega]
theorem slicePick_revInit (its : List Value) (h : 1 ≤ its.length) : slicePick its.toArray (some (-2)) none (some (-1)) = its.dropLast.reverse.toArray := by
  unfold slicePick
  have e : sliceBounds (some (-2)) none (some (-1)) its.toArray.size = ((its.length : Int) - 2, -1, -1) := by
    unfold sliceBounds
    simp
    omega
  rw [e]
  refine congrArg List.toArray ?_
  obtain ⟨m, x, rfl⟩ : ∃ m x, its = m ++ [x] := ⟨its.dropLast, its.getLast (by intro z; rw [z] at h; exact absurd h (by decide)), (List.dropLast_concat_getLast _).symm⟩
  have hl : ((m ++ [x]).length : Int) = (m.length : Int) + 1 := by simp
  show (sliceRange ((m ++ [x]).length - 2 : Int) (-1) (-1)).filterMap _ = _
  rw [hl, List.dropLast_concat]
  show (let count : Int := (if (m.length : Int) + 1 - 2 > -1 then ((m.length : Int) + 1 - 2 - -1 - -1 - 1) / (- -1) else 0); (List.range count.toNat).map fun (k : Nat) => ((m.length : Int) + 1 - 2 + -1 * (k : Int)).toNat).filterMap _ = _
  dsimp only
  have ec : (if (m.length : Int) + 1 - 2 > -1 then ((m.length : Int) + 1 - 2 - -1 - -1 - 1) / (- -1) else 0).toNat = m.length := by
    split
    · rw [show (- -1 : Int) = 1 from rfl, Int.ediv_one]; omega
    · omega
  rw [ec, List.filterMap_map]
  have ih := rev_pick m.reverse [x]
  rw [List.length_reverse, List.reverse_reverse] at ih
  refine Eq.trans ?_ ih
  refine congrArg (fun f => List.filterMap f (List.range m.length)) ?_
  funext k
  show ((m ++ [x]).toArray)[((m.length : Int) + 1 - 2 + -1 * (k : Int)).toNat]? = (m ++ [x])[m.length - 1 - k]?
  rw [List.getElem?_toArray, show ((m.length : Int) + 1 - 2 + -1 * (k : Int)).toNat = m.length - 1 - k by omega]
theorem vals_init {xs : List V} {us : List Value} (h : Vals xs us) : Vals xs.dropLast.reverse us.dropLast.reverse := by
  have hl := h.length
  refine L2.vals_of_at (by simp [hl]) fun j x u e1 e2 => ?_
  have l1 := (List.getElem?_eq_some_iff.mp e1).1
  rw [List.length_reverse, List.length_dropLast] at l1
  rw [List.getElem?_reverse (by rw [List.length_dropLast]; omega), List.length_dropLast, List.getElem?_dropLast, if_pos (by omega)] at e1
  rw [List.getElem?_reverse (by rw [List.length_dropLast]; omega), List.length_dropLast, List.getElem?_dropLast, if_pos (by omega), ← hl] at e2
  obtain ⟨u2, e3, rr⟩ := h.get e1
  rw [e2] at e3
  cases e3
  exact rr
def rRevI (K : PySem.W.Frag) : V → Option Int → Option Int → Option Int → Hp → VK → Prop := fun x lo hi stp H Q => lo = some (-2) ∧ hi = none ∧ stp = some (-1) ∧ ∃ a xs, x = .ref a ∧ SqL K H a xs ∧ 1 ≤ xs.length ∧ ∀ p, H p = none → Q (.ref p) (upd H p (.lst xs.dropLast.reverse))
def tSl3 (r : V → Option Int → Option Int → Option Int → Hp → VK → Prop) (te : TE) (tl th ts : TO) : TE := fun σ H Q => te σ H fun x H1 => tl σ H1 fun l H2 => th σ H2 fun u H3 => ts σ H3 fun k H4 => r x l u k H4 Q
section
variable {X : Cx} {e stp : Expr} {te : TE} {lo hi : Option Expr} {tl th ts : TO} {pos p2 : Pos}
theorem pe_sliceR (he : PE X e te) (hl : PO X lo tl) (hu : PO X hi th) (hs : PO X (some stp) ts) : PE X (.Subscript e (.Slice lo hi (some stp) p2) pos) (tSl3 (rRevI X.K) te tl th ts) := by
  (refine ⟨fun pins s σ H Q I h => ?_⟩)
  (refine Subscript_ (thn (he.run pins s σ H _ I h) fun v s1 ⟨x, H1, I1, r1, q1⟩ => ?_))
  refine wpAny_Slice (thn (hl.run pins s1 σ H1 _ I1 q1) fun vl s2 ⟨l, H2, I2, pl, q2⟩ => thn (hu.run pins s2 σ H2 _ I2 q2) fun vu s3 ⟨u, H3, I3, pu, q3⟩ => thn (hs.run pins s3 σ H3 _ I3 q3) fun vk s4 ⟨k, H4, I4, pk, q4⟩ => ?_)
  obtain ⟨rfl, rfl, rfl, a, xs, rfl, hx, hz, q⟩ := q4
  have I5 : Inv X pins σ H4 { s4 with heap := s4.heap.push { cls := .type "slice", data := .fields #[vl, vu, vk] } } := I4.kept (t' := s4.toks) fun b ob q => Heap.get?_push_of_some _ q
  cases r1
  obtain ⟨its, r, ht, hz2⟩ := I5.list hx
  have hlen := r.length
  show wpAny (model X.prog X.w) X.A (subscriptTail e (.Slice lo hi (some stp) p2) (.ref a) (.ref s4.heap.objs.size)) (EP X pins σ Q) X.xe { s4 with heap := s4.heap.push { cls := .type "slice", data := .fields #[vl, vu, vk] } }
  refine tail_any (ops := [.ref a, .ref s4.heap.objs.size]) ht.isList.typeIs slot_list_getitem.lookup ?_ (by with_unfolding_all rfl)
  refine wpAny_getItem_list_slice ht.isList (Heap.IsSliceOf.new ..) pl pu pk (by decide) ?_ (by rw [List.size_toArray] <;> omega)
  rw [slicePick_revInit _ (by omega)]
  refine ⟨.ref _, _, I5.laid (t' := s4.toks) (o := .lst xs.dropLast.reverse) (fun b ob q => Heap.get?_push_of_some _ q) (Nat.le_refl _) ?_, rfl, q _ (I5.hok.fresh (Nat.le_refl _))⟩
  exact ⟨by rw [List.length_reverse, List.length_dropLast]; omega, _, 0, vals_init r, Heap.get?_push_size _ rfl⟩
end

/-! ### split where a token is out -/
section
variable {X : Cx} {o e : Expr} {to te : TE} {i : Nat} {x : Str} {pos pos' apos : Pos}
def qSplit : V → List V → Hp → VK → Prop := fun x xs H Q => ∃ a b, x = .str a ∧ xs = [.str b] ∧ (b.length == 0) = false ∧ a.length + 2 ≤ sizeLine ∧ rNewStrs (Txt.split a b) H Q
theorem pet_split (ho : PET X o to) (he : PE X e te) (hs : starEach [e] X.env = [(false, eval e X.env)] := by rfl) (hbase : attributeBase o "split" X.env (eval o X.env) = eval o X.env := by rfl) (hline : (apos.endLine == pos.line) = true := by rfl) :
    PET X (.Call (.Attribute o "split" apos) [e] [] pos) (tM1 qSplit to te) := by
  intro pins s σ H Q h0 I h
  refine PySem.Call_method1 hbase hs hline (thn (ho pins s σ H _ h0 I h) fun v s1 ⟨x, H1, I1, r1, q1⟩ => ?_)
  obtain ⟨⟨a, rfl⟩, q1⟩ := q1
  (obtain ⟨t, rfl⟩ := _root_.id r1)
  refine ⟨"str", _, PySem.F.plainAttrs_str, PySem.F.slot_str_split, PySem.F.type_str_split, typeIs_str _ _ _, (fun _ e => nomatch e), Calls.callWith_builtin rfl (Calls.evalArgs_plain (Calls.spliced_cons ?_))⟩
  exact thn (he.run pins s1 σ H1 _ I1 q1) fun u s2 ⟨y, H2, I2, r2, q2⟩ => Calls.spliced_nil (mt_split pins s2 σ H2 _ [y] _ [u] Q I2 r1 (.cons r2 .nil) q2)
theorem pst_set (hN : X.N.Nodup) (hi : X.N[i]? = some x) (hx : Loc X.env.scope x) (he : PET X e te) (hs : swapsWith e (some (.Name x pos')) pos.line X.env = pure false := by rfl) (hf : X.fn x = true ∨ X.env.scope.names.lookup x = some .local := by first | exact .inl rfl | exact .inr rfl | assumption) :
    PST X (.Assign [.Name x pos'] e pos) (tAsg te (gName i)) := by
  intro pins s σ H D h0 I h
  refine wpAny_Assign_Name (thn (he pins s σ H _ h0 I h) fun v s1 ⟨y, H1, I1, r1, q1⟩ => ?_) hs
  (exact store_ok I1 hN hi hx r1 (fun s2 I2 => ⟨_, H1, I2, q1⟩) hf)
end
/-- a text cut at each sign c -/
def splC (c : Nat) : List Nat → List Nat → List (List Nat)
  | acc, [] => [acc]
  | acc, x :: r => if x = c then acc :: splC c [] r else splC c (acc ++ [x]) r
theorem spl_one (c : Nat) : ∀ (l acc : List Nat), TL.spl [c] 0 acc l = splC c acc l
  | [], acc => rfl
  | x :: r, acc => by
    rw [splC]
    by_cases h : x = c
    · rw [if_pos h, TL.spl_hit (by simp [TL.pre, h])]
      exact congrArg (fun m => acc :: m) (spl_one c r [])
    · rw [if_neg h, TL.spl_miss (by simpa [TL.pre] using h)]
      exact spl_one c r _
theorem split_one {l : List Nat} {c : Nat} (hc : c < 256) : Txt.split (st l) (st [c]) = (splC c [] l).map st := by
  have h := TL.split_spl (st l) (st [c]) (by simp [TL.tl, st]) (TL.kind_ok (by simpa [st] using hc))
  have e1 : TL.tl (st [c]) = [c] := st_cps [c]
  have e2 : TL.tl (st l) = l := st_cps l
  rw [e1, e2, spl_one] at h
  rw [← h, List.map_map]
  have e3 : ∀ zs : List Str, zs = zs.map (st ∘ TL.tl) := fun zs => by
    induction zs with
    | nil => rfl
    | cons z zs ih => rw [List.map_cons, ← ih]; exact congrArg (fun q => q :: zs) (st_of z)
  exact e3 _
section
variable {K : PySem.W.Frag} {σ : L2.St} {H : Hp} {D : Ends} {te to : TE} {tb : TS} {Q : VK} {v w : V} {y z : Str}
theorem x_qSplit {l : List Nat} {c : Nat} (hc : c < 256) (hl : l.length ≤ 1000000) (h : ∀ q H', H q = none → Ex H H' → H' q = some (.lst ((splC c [] l).map S)) → Q (.ref q) H') : qSplit (S l) [S [c]] H Q := by
  refine ⟨st l, st [c], rfl, rfl, by rw [st_len]; rfl, by rw [st_len, sizeLine_eq]; omega, fun q hq => ?_⟩
  refine h q _ hq ((Ex.refl H).new hq) ?_
  rw [upd_same, split_one hc, List.map_map]
  rfl
def qReplC (y z : Str) (Q : VK) : VK := fun v H1 => ∃ x, v = .str x ∧ x.length + (x.length + 1) * z.length ≤ 16777216 ∧ Q (.str (Txt.replace x y z)) H1
theorem x_replC (h : to σ H (qReplC y z Q)) : tReplC to y z σ H Q := h
theorem x_qReplC {l : List Nat} {c : Nat} {w : List Nat} (hy : y = st [c]) (hz : z = st w) (hl : l.length ≤ 100000) (hw : w.length ≤ 100) (h : Q (S (replC c w l)) H) : qReplC y z Q (S l) H := by
  subst hy hz
  refine ⟨st l, rfl, ?_, by rw [replace_st]; exact h⟩
  rw [st_len, st_len]
  have : (l.length + 1) * w.length ≤ (l.length + 1) * 100 := Nat.mul_le_mul_left _ hw
  omega
/-! ### xs[-2::-1] read -/
theorem x_sl3 {r : V → Option Int → Option Int → Option Int → Hp → VK → Prop} {tl th ts : TO} (h : te σ H fun x H1 => tl σ H1 fun l H2 => th σ H2 fun u H3 => ts σ H3 fun k H4 => r x l u k H4 Q) : tSl3 r te tl th ts σ H Q := h
theorem x_revI {a : Addr} {xs : List V} (hx : SqL K H a xs) (hz : 1 ≤ xs.length) (h : ∀ q H', H q = none → Ex H H' → H' q = some (.lst xs.dropLast.reverse) → Q (.ref q) H') : rRevI K (.ref a) (some (-2)) none (some (-1)) H Q :=
  ⟨rfl, rfl, rfl, a, xs, rfl, hx, hz, fun p hp => h p _ hp ((Ex.refl H).new hp) upd_same⟩
/-! ### any -/
theorem x_any {a : Addr} {bs : List Bool} (hx : SqL K H a (bs.map V.bl)) (h : Q (.bl (bs.any id)) H) : rAny K [.ref a] H Q := ⟨a, bs, rfl, hx, h⟩
/-! ### str(n) of a digit -/
def qStrI : List V → Hp → VK → Prop := fun xs H Q => ∃ i : Int, xs = [.int i] ∧ i.natAbs.log2 < 1920 ∧ Q (.str (toString i)) H
theorem l_strI {t : TA} (h : t σ H fun vs H1 => qStrI vs H1 Q) : tCB (fun xs H Q => ∃ i : Int, xs = [.int i] ∧ i.natAbs.log2 < 1920 ∧ Q (.str (toString i)) H) t σ H Q := h
theorem digit_st {n : Nat} (h : n < 10) : (↑(toString ((n : Nat) : Int)) : Str) = st [48 + n] := by
  have : ∀ m : Fin 10, (↑(toString ((m.val : Nat) : Int)) : Str) = st [48 + m.val] := by decide +kernel
  exact this ⟨n, h⟩
theorem x_strI {n : Nat} (hn : n < 10) (h : Q (S [48 + n]) H) : qStrI [.int (n : Nat)] H Q := by
  refine ⟨(n : Nat), rfl, ?_, ?_⟩
  · have : ∀ m : Fin 10, ((m.val : Nat) : Int).natAbs.log2 < 1920 := by decide
    exact this ⟨n, hn⟩
  · rw [digit_st hn]
    exact h
/-! ### x not in texts -/
theorem inV_st (l : List Nat) (ts : List (List Nat)) : inV (S l) (ts.map S) = decide (l ∈ ts) := by
  unfold inV
  rw [List.any_map]
  induction ts with
  | nil => rfl
  | cons t ts ih =>
    rw [List.any_cons, ih]
    show ((st t == st l) || decide (l ∈ ts)) = decide (l ∈ t :: ts)
    have e : (st t == st l) = decide (l = t) := by
      rw [Bool.eq_iff_iff]
      simp only [beq_iff_eq, decide_eq_true_eq, st_eq]
      exact ⟨Eq.symm, Eq.symm⟩
    rw [e]
    simp
theorem flat_S (ts : List (List Nat)) : (ts.map S).all flatV = true := by
  rw [List.all_map]
  (exact List.all_eq_true.mpr fun _ _ => rfl)
theorem x_niL {p : Addr} {l : List Nat} {ts : List (List Nat)} (hp : SqL K H p (ts.map S)) (h : Q (.bl (!decide (l ∈ ts))) H) : rIn K true (S l) (.ref p) H Q :=
  ⟨p, _, rfl, .inl hp, rfl, flat_S ts, by rw [if_pos rfl, inV_st]; exact h⟩
theorem x_inL {p : Addr} {l : List Nat} {ts : List (List Nat)} (hp : SqL K H p (ts.map S)) (h : Q (.bl (decide (l ∈ ts))) H) : rIn K false (S l) (.ref p) H Q :=
  ⟨p, _, rfl, .inl hp, rfl, flat_S ts, by rw [if_neg Bool.false_ne_true, inV_st]; exact h⟩
/-! ### keys -/
theorem x_qDPutV {a : Addr} {kvs : List (Key × V)} {k : Key} {σ : L2.St} (hd : H a = some (.dK kvs)) (hz : kvs.length ≤ 1000000) (h : ∀ H', H' a = some (.dK (putK kvs k v)) → (∀ b, b ≠ a → H' b = H b) → D.nx σ H') : qDPut D σ v (.ref a) (kV k) H :=
  ⟨a, _, rfl, DPut.k (k := k) hd (Nat.lt_of_le_of_lt hz (by decide)), h _ upd_same fun b n => upd_ne n⟩
def qListD : List V → Hp → VK → Prop := fun xs H Q => ∃ (a : Addr) (kvs : List (Key × V)), xs = [.ref a] ∧ Rd H a (.dK kvs) ∧ ∀ p, H p = none → Q (.ref p) (upd H p (.lst (kvs.map fun kv => kV kv.1)))
theorem l_listD {t : TA} (h : t σ H fun vs H1 => qListD vs H1 Q) : tCB (fun xs H Q => ∃ (a : Addr) (kvs : List (Key × V)), xs = [.ref a] ∧ Rd H a (.dK kvs) ∧ ∀ p, H p = none → Q (.ref p) (upd H p (.lst (kvs.map fun kv => kV kv.1)))) t σ H Q := h
/-- the dict's keys are these texts, in their order -/
def KeysAre (kvs : List (Key × V)) (ts : List (List Nat)) : Prop := kvs.map (·.1) = ts.map fun t => Sum.inr (st t)
def addN (ts : List (List Nat)) (t : List Nat) : List (List Nat) := if t ∈ ts then ts else ts ++ [t]
theorem addN_len (ts : List (List Nat)) (t : List Nat) : (addN ts t).length ≤ ts.length + 1 := by
  unfold addN
  split <;> simp
theorem putK_keys (kvs : List (Key × V)) (k : Key) (v : V) : (k ∈ kvs.map (·.1) → (putK kvs k v).map (·.1) = kvs.map (·.1)) ∧ (k ∉ kvs.map (·.1) → (putK kvs k v).map (·.1) = kvs.map (·.1) ++ [k]) := by
  have a1 : (kvs.any fun kv => decide (kv.1 = k)) = true ↔ k ∈ kvs.map (·.1) := by
    rw [List.any_eq_true, List.mem_map]
    exact ⟨fun ⟨x, h1, h2⟩ => ⟨x, h1, of_decide_eq_true h2⟩, fun ⟨x, h1, h2⟩ => ⟨x, h1, decide_eq_true h2⟩⟩
  unfold putK
  constructor
  · intro h
    rw [if_pos (a1.mpr h), List.map_map]
    (refine List.map_congr_left fun x _ => ?_)
    show (if x.1 = k then (x.1, v) else x).1 = x.1
    split <;> rfl
  · intro h
    rw [if_neg (fun z => h (a1.mp z)), List.map_append]
    rfl
theorem KeysAre.put {kvs : List (Key × V)} {ts : List (List Nat)} {v : V} (h : KeysAre kvs ts) (t : List Nat) : KeysAre (putK kvs (.inr (st t)) v) (addN ts t) := by
  unfold KeysAre at *
  have m : (Sum.inr (st t) : Key) ∈ kvs.map (·.1) ↔ t ∈ ts := by
    rw [h, List.mem_map]
    exact ⟨fun ⟨x, h1, h2⟩ => by rw [← st_inj (Sum.inr.inj h2)]; exact h1, fun h1 => ⟨t, h1, rfl⟩⟩
  unfold addN
  by_cases hm : t ∈ ts
  · rw [(putK_keys kvs _ v).1 (m.mpr hm), if_pos hm, h]
  · rw [(putK_keys kvs _ v).2 (fun z => hm (m.mp z)), if_neg hm, h, List.map_append]
    rfl
theorem x_listD {a : Addr} {kvs : List (Key × V)} {ts : List (List Nat)} (hd : H a = some (.dK kvs)) (hk : KeysAre kvs ts) (h : ∀ p H', H p = none → Ex H H' → H' p = some (.lst (ts.map S)) → Q (.ref p) H') : qListD [.ref a] H Q := by
  refine ⟨a, kvs, rfl, Rd.of hd, fun p hp => h p _ hp ((Ex.refl H).new hp) ?_⟩
  rw [upd_same]
  have e : (kvs.map fun kv => kV kv.1) = (kvs.map (·.1)).map kV := by rw [List.map_map]; rfl
  rw [e, hk, List.map_map]
  rfl
end
/-! ### sorted texts: the one result -/
def leL (a b : List Nat) : Bool := !ltCps b a
theorem ltCps_irr : ∀ a : List Nat, ltCps a a = false
  | [] => rfl
  | x :: r => by simp [ltCps, ltCps_irr r]
theorem leL_antisymm : ∀ {a b : List Nat}, leL a b = true → leL b a = true → a = b
  | [], [], _, _ => rfl
  | [], _ :: _, _, h => by simp [leL, ltCps] at h
  | _ :: _, [], h, _ => by simp [leL, ltCps] at h
  | x :: r, y :: s, h1, h2 => by
    simp only [leL, ltCps, Bool.not_or, Bool.and_eq_true, Bool.not_eq_true', decide_eq_false_iff_not, Bool.and_eq_false_iff, beq_eq_false_iff_ne] at h1 h2
    have e : x = y := by omega
    subst e
    have a1 : ltCps s r = false := by rcases h1.2 with h | h; exact absurd rfl h; exact h
    have a2 : ltCps r s = false := by rcases h2.2 with h | h; exact absurd rfl h; exact h
    rw [leL_antisymm (a := r) (b := s) (by simp [leL, a1]) (by simp [leL, a2])]
theorem leL_trans : ∀ {a b c : List Nat}, leL a b = true → leL b c = true → leL a c = true
  | [], b, c, _, _ => by cases c <;> simp [leL, ltCps]
  | _ :: _, [], _, h, _ => by simp [leL, ltCps] at h
  | _ :: _, _ :: _, [], _, h => by simp [leL, ltCps] at h
  | x :: r, y :: s, z :: t, h1, h2 => by
    simp only [leL, ltCps, Bool.not_or, Bool.and_eq_true, Bool.not_eq_true', decide_eq_false_iff_not, Bool.and_eq_false_iff, beq_eq_false_iff_ne] at h1 h2 ⊢
    refine ⟨by omega, ?_⟩
    by_cases e : z = x
    · right
      have e2 : y = x := by omega
      have a1 : ltCps s r = false := by rcases h1.2 with h | h; exact absurd e2 h; exact h
      have a2 : ltCps t s = false := by rcases h2.2 with h | h; exact absurd (e.trans e2.symm) h; exact h
      have := leL_trans (a := r) (b := s) (c := t) (by simp [leL, a1]) (by simp [leL, a2])
      simpa [leL] using this
    · exact .inl e
theorem leL_total : ∀ a b : List Nat, leL a b = true ∨ leL b a = true
  | [], b => .inl (by cases b <;> simp [leL, ltCps])
  | a :: r, [] => .inr (by simp [leL, ltCps])
  | x :: r, y :: s => by
    have ih := leL_total r s
    simp only [leL, ltCps, Bool.not_or, Bool.and_eq_true, Bool.not_eq_true', decide_eq_false_iff_not, Bool.and_eq_false_iff, beq_eq_false_iff_ne] at ih ⊢
    by_cases e : x = y
    · subst e
      rcases ih with h | h
      · exact .inl ⟨by omega, .inr h⟩
      · exact .inr ⟨by omega, .inr h⟩
    · by_cases h : x < y
      · exact .inl ⟨by omega, .inl (Ne.symm e)⟩
      · exact .inr ⟨by omega, .inl e⟩
/-- two rising lists of the same things are the same -/
theorem sorted_one {α : Type} {le : α → α → Bool} (anti : ∀ {a b}, le a b = true → le b a = true → a = b) : ∀ {xs ys : List α}, xs.Perm ys → xs.Pairwise (fun a b => le a b = true) → ys.Pairwise (fun a b => le a b = true) → xs = ys
  | [], ys, p, _, _ => (List.Perm.nil_eq p)
  | x :: xs, [], p, _, _ => absurd p.length_eq (by simp)
  | x :: xs, y :: ys, p, h1, h2 => by
    have e : x = y := by
      have m1 : x ∈ y :: ys := p.mem_iff.mp List.mem_cons_self
      have m2 : y ∈ x :: xs := p.mem_iff.mpr List.mem_cons_self
      rcases List.mem_cons.mp m1 with e | m1
      · exact e
      · rcases List.mem_cons.mp m2 with e | m2
        · exact e.symm
        · exact anti (List.rel_of_pairwise_cons h1 m2) (List.rel_of_pairwise_cons h2 m1)
    subst e
    rw [sorted_one anti p.cons_inv (List.pairwise_cons.mp h1).2 (List.pairwise_cons.mp h2).2]
def srt (ts : List (List Nat)) : List (List Nat) := ts.mergeSort leL
theorem srt_perm (ts : List (List Nat)) : (srt ts).Perm ts := List.mergeSort_perm _ _
theorem srt_pair (ts : List (List Nat)) : (srt ts).Pairwise (fun a b => leL a b = true) :=
  List.pairwise_mergeSort (le := leL) (fun a b c h1 h2 => leL_trans h1 h2) (fun a b => by simpa using leL_total a b) ts
theorem rising_pair : ∀ (x : Str) (l : List Str), risingS x l = true → (x :: l).Pairwise (fun a b => leL a.cps.toList b.cps.toList = true)
  | x, [], _ => List.pairwise_singleton _ _
  | x, y :: r, h => by
    have h : (!ltCps y.cps.toList x.cps.toList && risingS y r) = true := h
    rw [Bool.and_eq_true] at h
    have ih := rising_pair y r h.2
    refine List.pairwise_cons.mpr ⟨fun z hz => ?_, ih⟩
    (rcases List.mem_cons.mp hz with rfl | hz)
    · exact h.1
    · exact leL_trans h.1 (List.rel_of_pairwise_cons ih hz)
theorem sortedS_pair : ∀ (l : List Str), sortedS l = true → l.Pairwise (fun a b => leL a.cps.toList b.cps.toList = true)
  | [], _ => .nil
  | x :: r, h => rising_pair x r h
theorem map_tl (ys : List Str) : ys = (ys.map fun y => y.cps.toList).map st := by
  rw [List.map_map]
  induction ys with
  | nil => rfl
  | cons y ys ih => rw [List.map_cons, ← ih]; exact congrArg (fun z => z :: ys) (st_of y)
theorem sorted_srt {ys : List Str} {ts : List (List Nat)} (p : ys.Perm (ts.map st)) (h : sortedS ys = true) : ys = (srt ts).map st := by
  rw [map_tl ys]
  refine congrArg (List.map st) ?_
  refine sorted_one (le := leL) (fun h1 h2 => leL_antisymm h1 h2) ?_ ?_ (srt_pair ts)
  · refine List.Perm.trans ?_ (srt_perm ts).symm
    have q := p.map fun y : Str => y.cps.toList
    rw [List.map_map] at q
    have e : ts.map ((fun y : Str => y.cps.toList) ∘ st) = ts := by
      have : ((fun y : Str => y.cps.toList) ∘ st) = id := by funext l; exact st_cps l
      rw [this, List.map_id]
    rw [e] at q
    exact q
  · rw [List.pairwise_map]
    exact sortedS_pair ys h
section
variable {K : PySem.W.Frag} {σ : L2.St} {H : Hp} {D : Ends} {te to : TE} {tb : TS} {Q : VK} {v w : V} {α : Type} {g : TG}
theorem x_sortedS {a : Addr} {ts : List (List Nat)} (hp : SqL K H a (ts.map S)) (hz : ts.length < 64) (h : ∀ p H', H p = none → Ex H H' → H' p = some (.lst ((srt ts).map S)) → Q (.ref p) H') : rSortedS K [.ref a] H Q := by
  refine ⟨a, ts.map st, rfl, by rw [List.map_map]; exact hp, by rw [List.length_map]; exact hz, fun ys p hperm hs hn => h p _ hn ((Ex.refl H).new hn) ?_⟩
  rw [upd_same, sorted_srt hperm hs, List.map_map]
  rfl
/-! ### lists of tuples -/
def TupsAt (H : Hp) (q : Addr) (P : List (List V)) : Prop := ∃ as : List Addr, as.length = P.length ∧ H q = some (.lst (as.map V.ref)) ∧ ∀ (i : Nat) (a : Addr) (s : List V), as[i]? = some a → P[i]? = some s → H a = some (.tup s)
theorem TupsAt.ex {H H' : Hp} {q : Addr} {P : List (List V)} (h : TupsAt H q P) (e : Ex H H') : TupsAt H' q P := by
  obtain ⟨as, h1, h2, h3⟩ := h
  exact ⟨as, h1, e _ _ h2, fun i a s e1 e2 => e _ _ (h3 i a s e1 e2)⟩
theorem TupsAt.seq {H : Hp} {q : Addr} {P : List (List V)} (h : TupsAt H q P) : ∃ xs : List V, H q = some (.lst xs) ∧ xs.length = P.length ∧ ∀ (i : Nat) (s : List V), P[i]? = some s → ∃ a, atI xs ((i : Nat) : Int) = some (.ref a) ∧ H a = some (.tup s) := by
  obtain ⟨as, h1, h2, h3⟩ := h
  refine ⟨_, h2, by rw [List.length_map, h1], fun i s e => ?_⟩
  have hi : i < as.length := by
    have := (List.getElem?_eq_some_iff.mp e).1
    omega
  have ha : as[i]? = some as[i] := List.getElem?_eq_getElem hi
  exact ⟨as[i], atI_nat (by rw [List.getElem?_map, ha]; rfl), h3 i _ s ha e⟩
theorem TupsAt.off {H J : Hp} {q b : Addr} {P : List (List V)} {o : HO} (h : TupsAt H q P) (n : q ≠ b) (hb : ∀ xs, o ≠ .tup xs) (ho : H b = some o) (k : ∀ a, a ≠ b → J a = H a) : TupsAt J q P := by
  obtain ⟨as, h1, h2, h3⟩ := h
  refine ⟨as, h1, by rw [k q n]; exact h2, fun i a s e1 e2 => ?_⟩
  have h4 := h3 i a s e1 e2
  rw [k a (fun e => by rw [e, ho] at h4; exact hb _ (Option.some.inj h4))]
  exact h4
theorem TupsAt.push {H J : Hp} {q T : Addr} {P : List (List V)} {s : List V} {xs : List V} (h : TupsAt H q P) (hx : H q = some (.lst xs)) (e : J q = some (.lst (xs ++ [.ref T]))) (hT : J T = some (.tup s)) (k : ∀ a, a ≠ q → J a = H a) : TupsAt J q (P ++ [s]) := by
  obtain ⟨as, h1, h2, h3⟩ := h
  rw [h2] at hx
  obtain rfl := HO.lst.inj (Option.some.inj hx)
  refine ⟨as ++ [T], by simp [h1], by rw [e, List.map_append]; rfl, fun i a u e1 e2 => ?_⟩
  rcases Nat.lt_or_ge i as.length with hi | hi
  · rw [List.getElem?_append_left hi] at e1
    rw [List.getElem?_append_left (by omega)] at e2
    rw [k a (tup_ne (h3 i a u e1 e2) h2)]
    exact h3 i a u e1 e2
  · have := (List.getElem?_eq_some_iff.mp e1).1
    rw [List.length_append, List.length_singleton] at this
    obtain rfl : i = as.length := by omega
    obtain rfl : T = a := by simpa using e1
    rw [h1] at e2
    obtain rfl : s = u := by simpa using e2
    exact hT
theorem TupsAt.one {H : Hp} {q T : Addr} {s : List V} (hq : H q = some (.lst [.ref T])) (hT : H T = some (.tup s)) : TupsAt H q [s] :=
  ⟨[T], rfl, hq, fun i a u e1 e2 => by
    have := (List.getElem?_eq_some_iff.mp e1).1
    rw [List.length_singleton] at this
    obtain rfl : i = 0 := by omega
    obtain rfl : T = a := by simpa using e1
    obtain rfl : s = u := by simpa using e2
    exact hT⟩
/-! ### enumerate of a list -/
def qEnL (K : PySem.W.Frag) : List V → Hp → (It → Hp → Prop) → Prop := fun vs H R => ∃ a xs, vs = [.ref a] ∧ SqL K H a xs ∧ R (Ite K a) H
theorem x_iEnL {R : It → Hp → Prop} {ta : TA} (h : ta σ H fun vs H1 => qEnL K vs H1 R) : iEnum K ta σ H R := h
theorem x_qEnL {R : It → Hp → Prop} {p : Addr} {xs : List V} (hp : SqL K H p xs) (h : R (Ite K p) H) : qEnL K [.ref p] H R := ⟨p, xs, rfl, hp, h⟩
theorem for_EnL {p : Addr} {l : List α} {enc : α → V} {i1 i2 : Nat} (Pv : List α → List α → L2.St → Hp → Prop) (h0 : Pv [] l σ H) (hG : ∀ q r σ H, Pv q r σ H → SqL K H p (l.map enc))
    (hs : ∀ q a r σ H T H', l = q ++ a :: r → Pv q (a :: r) σ H → H T = none → Ex H H' → H' T = some (.tup [.int (q.length : Nat), enc a]) → tb { D with nx := Pv (q ++ [a]) r, ct := Pv (q ++ [a]) r, bk := D.nx } ((σ.set i1 (some (.int (q.length : Nat)))).set i2 (some (enc a))) H')
    (hd : ∀ σ H, Pv l [] σ H → D.nx σ H) : qFor (Ite K p) (gTup K 2 (gCons (gName i1) (gCons (gName i2) gNil))) tb D σ H := by
  have w := walk_enum (K := K) (a := p) (xs := l.map enc)
  rw [List.length_map] at w
  refine for_it w (fun i σ H => Pv (l.take i) (l.drop i) σ H) h0 (fun i σ H _ h => hG _ _ _ _ h) (fun i x σ H H' hi hp hy => ?_) (fun σ H hp => ?_)
  · obtain ⟨T, x1, x2, rfl, hT, rfl, h1, h2⟩ := hy
    obtain rfl := (Option.some.inj h1).symm
    have h2 : (l.map enc)[i]? = some x2 := h2
    rw [List.getElem?_map] at h2
    cases q : l[i]? with
    | none => rw [q] at h2; cases h2
    | some a =>
      rw [q] at h2
      obtain rfl := (Option.some.inj h2).symm
      rw [take_drop_cons q] at hp
      have z := hs (l.take i) a (l.drop (i + 1)) σ H T _ (pre_of q) hp hT ((Ex.refl H).new hT) upd_same
      have e2 : l.take (i + 1) = l.take i ++ [a] := by
        rw [List.take_add_one, q]
        rfl
      have e3 : (l.take i).length = i := by rw [List.length_take]; omega
      rw [← e2, e3] at z
      refine x_gT2 (.inl (.inl ?_)) z
      exact upd_same
  · rw [List.take_length, List.drop_length] at hp
    exact hd σ H hp
end
end TY

/-! own classes: C() without an own __init__; o.m(..) where the class is told by the reading -/
namespace TY
open PySem PySem.W PySem.Calls PySem.Spec PyProof.Rows L2

/-- a class that is made with object's __init__ -/
structure MkP (K : PySem.W.Frag) (C : Addr) : Prop where
  makes : (PySem.W.makesIn K C) = true
  init : (PySem.W.findIn K (.ref C) "__init__") = some (some (.builtin "object.__init__"))
  top : (PySem.W.mroIn K C (.type "object")) = some true
  kp : (PySem.W.keepIn K (.ref C)) = true
section
variable {X : Cx} {pins : List (Addr × Obj)} {σ : L2.St} {H : Hp} {s : Shared} {Q : VK} {C : Addr} {x : PySem.Str} {p pos : Pos}
theorem run_makeP (M : MkP X.K C) (I : L2.Inv X pins σ H s) (h : ∀ x dx, H x = none → H dx = none → dx ≠ x → Q (.ref x) (upd (upd H dx (.own x)) x (.ins C dx []))) :
    wpAny (model X.prog X.w) X.A (call (.ref C) []) (EP X pins σ Q) X.xe s := by
  (have hq := h (s.heap.objs.size + 1) s.heap.objs.size (I.hok.fresh (Nat.le_succ _)) (I.hok.fresh (Nat.le_refl _)) (Nat.ne_of_lt (Nat.lt_succ_self _)))
  have I2 := L2.Inv.made (C := C) I
  have ho : ((s.heap.push PySem.W.emptyDict).push (PySem.W.instObj C s.heap.objs.size)).get? (s.heap.objs.size + 1) = some (PySem.W.instObj C s.heap.objs.size) := by
    (have := Heap.get?_push_size (s.heap.push PySem.W.emptyDict) (o := PySem.W.instObj C s.heap.objs.size) rfl)
    rwa [Heap.size_push] at this
  have t1 := NwA.type_at (M := model X.prog X.w) (C := C) ho rfl
  have t2 : Looks (model X.prog X.w) ((s.heap.push PySem.W.emptyDict).push (PySem.W.instObj C s.heap.objs.size)) (isInstance (.ref (s.heap.objs.size + 1)) (.type "object")) true := t1.andThen (looks_mroIn I2.kIn M.top)
  refine wpAny_call (make_map0 I.kIn M.makes M.init (fun self => Looks.of_pure (oi_bind _)) ?_)
  refine codeAny_call_builtin oi_plain entry_oi (@check_slot (model X.prog X.w) _ _ _ "object.__init__" "object" "__init__" (.ref (s.heap.objs.size + 1)) [] [] _ oi_kind oi_split t2 (NwA.oi_args_any _ _ _) ?_)
  rw [oi_run]
  exact wpAny_pure ⟨rfl, V.ref (s.heap.objs.size + 1), _, I2, rfl, hq⟩
def tMakeP (C : Addr) : TE := fun σ H Q => ∀ x dx, H x = none → H dx = none → dx ≠ x → Q (.ref x) (upd (upd H dx (.own x)) x (.ins C dx []))
theorem pe_makeP (M : MkP X.K C) (hg : Gl X x) (hm : X.mg x = some (.ref C)) (hdb : (x == ("__debug__" : PySem.Str)) = false := by decide) : PE X (.Call (.Name x p) [] [] pos) (tMakeP C) := by
  (refine ⟨fun pins s σ H Q I h => ?_⟩)
  (refine wpAny_Call_Name_kw (ld_glob I hg hm ?_ hdb))
  exact PySem.W.callWith_K0 I.kIn M.kp (run_makeP M I h)
end

/-! C(..) with an own __init__, in a try too -/
section
variable {X : Cx} {CX : CXT} {k : Nat} {f C : Addr} {fd : FuncData} {ps : List PySem.Str} {sp : Sp} {E : L2.St → XK} {x m : PySem.Str} {p pos apos : Pos} {e o : Expr} {es : List Expr} {ta : TE} {t : TA}
theorem run_makeS {pins : List (Addr × Obj)} {σ : L2.St} {H : Hp} {s : Shared} {Q : VK} {us : List Value} {vs : List V} (M : Mk X.K C f) (F : FnOk X.prog X.w X.K X.mg X.base CX k f fd ps sp) (hr : Room (k + 1) X.A) (hb : Binds X.K fd ps [])
    (hx : PassesAt CX X σ (E σ)) (I : L2.Inv X pins σ H s) (r : Vals vs us)
    (h : ∀ x dx, H x = none → H dx = none → dx ≠ x → sp (.ref x :: vs) (upd (upd H dx (.own x)) x (.ins C dx [])) (fun v H2 => v = .non ∧ Q (.ref x) H2) (E σ)) :
    wpAny (model X.prog X.w) X.A (call (Value.ref C) us) (EP X pins σ Q) X.xe s := by
  (have hq := h (s.heap.objs.size + 1) s.heap.objs.size (I.hok.fresh (Nat.le_succ _)) (I.hok.fresh (Nat.le_refl _)) (Nat.ne_of_lt (Nat.lt_succ_self _)))
  have I2 := L2.Inv.made (C := C) I
  (have r2 : Vals (V.ref (s.heap.objs.size + 1) :: vs) (Value.ref (s.heap.objs.size + 1) :: us) := .cons rfl r)
  have hl : (Value.ref (s.heap.objs.size + 1) :: us).length = ps.length := by
    have e := r2.length
    rw [F.len _ _ _ _ hq] at e
    exact e.symm
  have b := hb { s with heap := (s.heap.push PySem.W.emptyDict).push (PySem.W.instObj C s.heap.objs.size) } (Value.ref (s.heap.objs.size + 1) :: us) I2.kIn (by rw [List.append_nil]; exact hl)
  rw [List.append_nil] at b
  refine wpAny_call (make_map (f := f) I.kIn M.makes M.init (beq_iff_eq.mp M.fn) (codeAny_mono (F.run _ X.stack _ _ ⟨Value.ref (s.heap.objs.size + 1) :: us, []⟩ (Value.ref (s.heap.objs.size + 1) :: us) _ _ (E σ) (hr.make C us [])
    (I2.env0.make C us []) b r2 hq) fun r s' hq' => ?_))
  cases r with
  | error e => exact hx pins _ _ e s' I2 hq'
  | ok fl =>
    cases fl with
    | ret u =>
      (obtain ⟨v, H', I3, rv, ev, q3⟩ := I2.after hq')
      subst ev
      (exact ⟨rv, ⟨V.ref (s.heap.objs.size + 1), H', I3, rfl, q3⟩⟩)
    | next => exact (False.elim hq')
    | brk => exact (False.elim hq')
    | cont => exact (False.elim hq')
/-- C(..): an instance, its dict, its __init__ -/
def tMakeS (C : Addr) (sp : Sp) (E : L2.St → XK) (t : TA) : TE := fun σ H Q => t σ H fun vs H1 => ∀ x dx, H1 x = none → H1 dx = none → dx ≠ x →
  sp (.ref x :: vs) (upd (upd H1 dx (.own x)) x (.ins C dx [])) (fun v H2 => v = .non ∧ Q (.ref x) H2) (E σ)
theorem pe_makeS (M : Mk X.K C f) (F : FnOk X.prog X.w X.K X.mg X.base CX k f fd ps sp) (hr : Room (k + 1) X.A) (hg : Gl X x) (hm : X.mg x = some (.ref C)) (hb : Binds X.K fd ps []) (hx : ∀ σ, PassesAt CX X σ (E σ))
    (ha : PA X (e :: es) t) (hdb : (x == ("__debug__" : PySem.Str)) = false := by decide) (he : starEach (e :: es) X.env = (false, eval e X.env) :: starEach es X.env := by rfl) (hpl : (backTo pos (starEach es X.env)).any (·.1) = false := by rfl) :
    PE X (.Call (.Name x p) (e :: es) [] pos) (tMakeS C sp E t) := by
  (refine ⟨fun pins s σ H Q I h => ?_⟩)
  (refine wpAny_Call_Name_kw (ld_glob I hg hm ?_ hdb))
  (refine PySem.W.callWith_K (h₀ := X.base) I.ok.mod.kin M.kp (thn (ha.run pos pins s σ H _ I h) fun us s1 ⟨vs, H1, I1, r, q⟩ => ⟨I1.kIn, ?_⟩) he hpl)
  exact run_makeS M F hr hb (hx σ) I1 r q
theorem pe_makeS0 (M : Mk X.K C f) (F : FnOk X.prog X.w X.K X.mg X.base CX k f fd ps sp) (hr : Room (k + 1) X.A) (hg : Gl X x) (hm : X.mg x = some (.ref C)) (hb : Binds X.K fd ps []) (hx : ∀ σ, PassesAt CX X σ (E σ))
    (hdb : (x == ("__debug__" : PySem.Str)) = false := by decide) : PE X (.Call (.Name x p) [] [] pos) (tMakeS C sp E tNil) := by
  (refine ⟨fun pins s σ H Q I h => ?_⟩)
  (refine wpAny_Call_Name_kw (ld_glob I hg hm ?_ hdb))
  exact PySem.W.callWith_K0 I.kIn M.kp (run_makeS (us := []) M F hr hb (hx σ) I .nil h)
/-! o.m(..): the reading tells the class -/
structure MethOf (X : Cx) (CX : CXT) (k : Nat) (C : Addr) (m : PySem.Str) (sp : Sp) : Prop where
  ex : ∃ (f : Addr) (fd : FuncData) (ps : List PySem.Str) (j : Nat), j ≤ k ∧ Cls X.K C ∧ Meth X.K C m f ∧ FnOk X.prog X.w X.K X.mg X.base CX j f fd ps sp ∧ Binds X.K fd ps []
def tMethA (X : Cx) (CX : CXT) (k : Nat) (m : PySem.Str) (E : L2.St → XK) (ta : TE) (t : TA) : TE := fun σ H Q => ta σ H fun x H1 => ∃ a C dx fs sp, x = .ref a ∧ H1 a = some (.ins C dx fs) ∧ fs.lookup m = none ∧ MethOf X CX k C m sp ∧
  t σ H1 fun vs H2 => sp (x :: vs) H2 Q (E σ)
theorem pe_methA {pl : Sem Bool} (he : PE X o ta) (hr : Room k X.A) (hx : ∀ σ, PassesAt CX X σ (E σ)) (ha : PA X (e :: es) t)
    (hst : (starEach (e :: es) X.env) = (false, eval e X.env) :: starEach es X.env := by rfl) (hpl : ((backTo pos (starEach es X.env)).any (·.1)) = false := by rfl)
    (ht : (eval (.Call (.Attribute o m apos) (e :: es) [] pos) X.env) = (do
      let ov ← eval o X.env
      standAt apos.atName
      let (f, first) ← (holding [ov] (getMethod ov m pl))
      (callWith pos f first (backTo pos (starEach (e :: es) X.env)) (backToKw pos (keywordEach [] X.env)))) := by rfl) :
    PE X (.Call (.Attribute o m apos) (e :: es) [] pos) (tMethA X CX k m E ta t) := by
  (refine ⟨fun pins s σ H Q I h => ?_⟩)
  refine PySem.W.methodCall_KW (pl := pl) (thn (he.run pins s σ H _ I h) fun u s1 ⟨x, H1, I1, rx, a, C, dx, fs, sp, ex, ea, l, mo, q⟩ => ?_) ht
  subst ex
  (obtain rfl : u = Value.ref a := rx)
  obtain ⟨f, fd, ps, j, hj, c, hm, F, hb⟩ := mo.ex
  (refine getmeth_ok I1 ea c hm l ?_)
  (refine PySem.W.callWith_K (first := [.ref a]) (h₀ := X.base) I.ok.mod.kin hm.kp (thn (ha.run pos pins s1 σ H1 _ I1 q) fun us s2 ⟨vs, H2, I2, r, q2⟩ => ⟨I2.kIn, ?_⟩) hst hpl)
  exact run_fnS (us := .ref a :: us) (vs := .ref a :: vs) F (hr.mono hj) hb (hx σ) I2 (.cons rfl r) q2
/-- o.m() -/
theorem pe_methA0 {pl : Sem Bool} (he : PE X o ta) (hr : Room k X.A) (hx : ∀ σ, PassesAt CX X σ (E σ))
    (ht : (eval (.Call (.Attribute o m apos) [] [] pos) X.env) = (do
      let ov ← eval o X.env
      standAt apos.atName
      let (f, first) ← (holding [ov] (getMethod ov m pl))
      (callWith pos f first (backTo pos (starEach [] X.env)) (backToKw pos (keywordEach [] X.env)))) := by rfl) :
    PE X (.Call (.Attribute o m apos) [] [] pos) (tMethA X CX k m E ta tNil) := by
  (refine ⟨fun pins s σ H Q I h => ?_⟩)
  refine PySem.W.methodCall_KW (pl := pl) (thn (he.run pins s σ H _ I h) fun u s1 ⟨x, H1, I1, rx, a, C, dx, fs, sp, ex, ea, l, mo, q⟩ => ?_) ht
  subst ex
  (obtain rfl : u = Value.ref a := rx)
  obtain ⟨f, fd, ps, j, hj, c, hm, F, hb⟩ := mo.ex
  (refine getmeth_ok I1 ea c hm l ?_)
  exact PySem.W.callWith_K0 (first := [.ref a]) I1.kIn hm.kp (run_fnS (us := [.ref a]) (vs := [.ref a]) F (hr.mono hj) hb (hx σ) I1 (.cons rfl .nil) q)
theorem at0 : ∀ σ : L2.St, PassesAt CX0 X σ E0 := fun _ _ _ _ _ _ _ h => h.elim
theorem passX0 {P : Program} {w : World} : ∀ σ : L2.St, PassesAt (L2.CX P w) X σ E0 := fun _ _ _ _ _ _ _ h => by
  (obtain ⟨_, _, _, _, _, _, _, _, _, _, _, _, z⟩ := h)
  exact z.elim
theorem atX {Ex : XK} (h : Passes CX X Ex) : ∀ σ : L2.St, PassesAt CX X σ Ex := fun σ pins H s e s' I c => h pins σ H s e s' I c
end
/-- an instance's own __class__ -/
structure ObjC (K : PySem.W.Frag) (C : Addr) : Prop where
  cl : Cls K C
  ha : (PySem.W.findIn K (.ref C) "__class__") = some (some (.builtin "object.__class__"))
  hn : (PySem.W.specialIn K (.builtin "object.__class__") "__get__") = some (some (.builtin "getset_descriptor.__get__"))
  ht : (PySem.W.takesIn K (.builtin "object.__class__")) = some true
  hm : (PySem.W.mroIn K C (.type "object")) = some true
/-! readings, by steps -/
section
variable {K : PySem.W.Frag} {σ : L2.St} {H : Hp} {D : Ends} {te to tv : TE} {Q : VK} {a C dx c : Addr} {fs : List (PySem.Str × V)} {f : PySem.Str} {v w : V}
theorem x_isiO {b : Bool} (o : ObjC K C) (hp : H a = some (.ins C dx fs)) (hk : PySem.W.kitOne K (.ref C) (.ref c) = some b) (h : Q (.bl b) H) : rIsi K [.ref a, .ref c] H Q :=
  ⟨_, _, _, _, b, rfl, .own c, .base (.ins hp o.cl o.ha o.hn o.ht o.hm), hk, h⟩
def qFld (K : PySem.W.Frag) (f : PySem.Str) (Q : VK) : VK := fun x H1 => ∃ a C dx fs v, x = .ref a ∧ H1 a = some (.ins C dx fs) ∧ Cls K C ∧ NoAttr K C f ∧ fs.lookup f = some v ∧ Q v H1
theorem x_fld (h : te σ H (qFld K f Q)) : tFld K te f σ H Q := h
theorem x_qFld (c : Cls K C) (n : NoAttr K C f) (hp : H a = some (.ins C dx fs)) (hl : fs.lookup f = some v) (h : Q v H) : qFld K f Q (.ref a) H := ⟨a, C, dx, fs, v, rfl, hp, c, n, hl, h⟩
def qSFld (K : PySem.W.Frag) (f : PySem.Str) (D : Ends) (σ : L2.St) (y : V) : VK := fun x H2 => ∃ a C dx fs, x = .ref a ∧ H2 a = some (.ins C dx fs) ∧ Cls K C ∧ NoAttr K C f ∧ fs.length < 1000 ∧ D.nx σ (upd H2 a (.ins C dx (putF f y fs)))
theorem x_sfld (h : tv σ H fun y H1 => to σ H1 (qSFld K f D σ y)) : sFld K to tv f D σ H := h
theorem x_qSFld (c : Cls K C) (n : NoAttr K C f) (hp : H a = some (.ins C dx fs)) (hz : fs.length < 1000) (h : ∀ H', H' a = some (.ins C dx (putF f w fs)) → (∀ b, b ≠ a → H' b = H b) → D.nx σ H') : qSFld K f D σ w (.ref a) H :=
  ⟨a, C, dx, fs, rfl, hp, c, n, hz, h _ upd_same fun b n => upd_ne n⟩
/-- C() without an __init__ -/
theorem x_makeP (h : ∀ x dx H', H x = none → Ex H H' → H' x = some (.ins C dx []) → Q (.ref x) H') : tMakeP C σ H Q := fun x dx hx hd ne => h x dx _ hx (by
  intro b o hb
  rw [upd_ne (ne_of_none hb hx), upd_ne (ne_of_none hb hd)]
  exact hb) upd_same
/-- C(..): what the __init__ sees -/
def qMakeS (C : Addr) (sp : Sp) (E : XK) (Q : VK) : List V → Hp → Prop := fun vs H1 => ∀ x dx, H1 x = none → H1 dx = none → dx ≠ x → sp (.ref x :: vs) (upd (upd H1 dx (.own x)) x (.ins C dx [])) (fun v H2 => v = .non ∧ Q (.ref x) H2) E
theorem x_makeS {sp : Sp} {E : L2.St → XK} {t : TA} (h : t σ H (qMakeS C sp (E σ) Q)) : tMakeS C sp E t σ H Q := h
theorem x_qMakeS {sp : Sp} {E : XK} {vs : List V} (h : ∀ x dx H', H x = none → H dx = none → Ex H H' → H' x = some (.ins C dx []) → (∀ b o, b ≠ x → H' b = some o → H b = some o ∨ b = dx) → sp (.ref x :: vs) H' (fun v H2 => v = .non ∧ Q (.ref x) H2) E) : qMakeS C sp E Q vs H := fun x dx hx hd ne => h x dx _ hx hd (by
  intro b o hb
  rw [upd_ne (ne_of_none hb hx), upd_ne (ne_of_none hb hd)]
  exact hb) upd_same (fun b o n e => by
  rw [upd_ne n] at e
  by_cases h : b = dx
  · exact .inr h
  · rw [upd_ne h] at e
    exact .inl e)
theorem x_methA {X : Cx} {CX : CXT} {k : Nat} {m : PySem.Str} {E : L2.St → XK} {t : TA} (h : te σ H fun x H1 => ∃ a C dx fs sp, x = .ref a ∧ H1 a = some (.ins C dx fs) ∧ fs.lookup m = none ∧ MethOf X CX k C m sp ∧ t σ H1 fun vs H2 => sp (x :: vs) H2 Q (E σ)) :
    tMethA X CX k m E te t σ H Q := h
/-! f'..' -/
theorem x_fmtS {l : List Nat} (hl : l.length ≤ 1000000) (h : Q (S l) H) : (∃ y : PySem.Str, S l = .str y ∧ y.length ≤ sizeLine ∧ Q (.str y) H) ∨ ∃ i : Int, S l = .int i ∧ i.natAbs.log2 < 1920 ∧ Q (.str (toString i)) H :=
  .inl ⟨_, rfl, by rw [st_len]; exact Nat.le_trans hl (by decide), h⟩
theorem x_fmtI {n : Nat} (hn : n < 10) (h : Q (S [48 + n]) H) : (∃ y : PySem.Str, V.int (n : Nat) = .str y ∧ y.length ≤ sizeLine ∧ Q (.str y) H) ∨ ∃ i : Int, V.int (n : Nat) = .int i ∧ i.natAbs.log2 < 1920 ∧ Q (.str (toString i)) H := by
  refine .inr ⟨(n : Nat), rfl, ?_, ?_⟩
  · have : ∀ m : Fin 10, ((m.val : Nat) : Int).natAbs.log2 < 1920 := by decide
    exact this ⟨n, hn⟩
  · rw [digit_st hn]
    exact h
theorem x_fmt (h : te σ H fun x H1 => (∃ y : PySem.Str, x = .str y ∧ y.length ≤ sizeLine ∧ Q (.str y) H1) ∨ ∃ i : Int, x = .int i ∧ i.natAbs.log2 < 1920 ∧ Q (.str (toString i)) H1) : tFmt te σ H Q := h
def qJs (ts : List TE) (acc : List Nat) (σ : L2.St) (R : PySem.Str → Hp → Prop) : VK := fun x H1 => ∃ y : PySem.Str, x = .str y ∧ (st acc ++ y).length ≤ sizeLine ∧ tJs ts (st acc ++ y) σ H1 R
theorem x_js {t : TE} {ts : List TE} {acc : List Nat} {R : PySem.Str → Hp → Prop} (h : t σ H (qJs ts acc σ R)) : tJs (t :: ts) (st acc) σ H R := h
theorem x_qJs {ts : List TE} {acc l : List Nat} {R : PySem.Str → Hp → Prop} (hl : acc.length + l.length ≤ 1000000) (h : tJs ts (st (acc ++ l)) σ H R) : qJs ts acc σ R (S l) H :=
  ⟨st l, rfl, by rw [st_app, st_len, List.length_append]; exact Nat.le_trans hl (by decide), by rw [st_app]; exact h⟩
theorem x_jsE {acc : List Nat} {R : PySem.Str → Hp → Prop} (h : R (st acc) H) : tJs [] (st acc) σ H R := h
theorem st_nil : PySem.Str.empty = st [] := rfl
theorem x_js0 {t : TE} {ts : List TE} {R : PySem.Str → Hp → Prop} (h : t σ H (qJs ts [] σ R)) : tJs (t :: ts) PySem.Str.empty σ H R := h
/-! {k: v}, one entry -/
def qPp1 (tv : TE) (σ : L2.St) (p : Addr) (Q : VK) : VK := fun u H1 => tv σ H1 fun z H2 => H2 p = some (.dK []) ∧ ∃ kvs : List (Key × V), [(u, z)] = kvs.map (fun kv => (kV kv.1, kv.2)) ∧ kvs.length ≤ 15 ∧ Q (.ref p) (upd H2 p (.dK (mergeK [] kvs)))
end
end TY

/-! sorted(texts, key=f), f a def that makes (number, text): any length, the one result -/
namespace TY
open PySem PySem.W PySem.Calls PySem.Spec PyProof.Rows L2

theorem eachIs_of {α β : Type} {R : α → β → Prop} : ∀ {as : List α} {bs : List β}, as.length = bs.length → (∀ (i : Nat) (a : α) (b : β), as[i]? = some a → bs[i]? = some b → R a b) → EachIs R as bs
  | [], [], _, _ => .nil
  | [], _ :: _, h, _ => (by simp at h)
  | _ :: _, [], h, _ => (by simp at h)
  | a :: as, b :: bs, h, f => .cons (f 0 a b rfl rfl) (eachIs_of (by simpa using h) fun i x y h1 h2 => f (i + 1) x y (by simpa using h1) (by simpa using h2))
def kD (n : List Nat → Int) (t : List Nat) : PyData := .tuple [.int (n t), .str (st t)]
theorem kD_alike (n : List Nat → Int) (ts : List (List Nat)) : AllAlike (ts.map (kD n)) := by
  intro d hd e he
  obtain ⟨t, _, rfl⟩ := List.mem_map.mp hd
  obtain ⟨u, _, rfl⟩ := List.mem_map.mp he
  simp [kD, alike, alikeAll]
theorem kD_sortable (n : List Nat → Int) (ts : List (List Nat)) : Sortable (ts.map (kD n)) := .inl fun d hd => by
  obtain ⟨t, _, rfl⟩ := List.mem_map.mp hd
  exact ⟨_, _, rfl⟩
theorem kD_depth (n : List Nat → Int) (t : List Nat) : (kD n t).depth ≤ 5 := by
  simp [kD, PyData.depth, PyData.depthAll]
section
variable {X : Cx} {H : Hp} {pins : List (Addr × Obj)} {s : Shared} {σ : L2.St}
/-- a call under sorted and list.sort -/
theorem run_fn2 {Q : VK} {f : Addr} {fd : FuncData} {ps : List PySem.Str} {sp : Sp} {k : Nat} {u : Value} {v : V} (F : FnOk X.prog X.w X.K X.mg X.base CX0 k f fd ps sp) (hr : Room (k + 2) X.A) (hb : Binds X.K fd ps [])
    (I : L2.Inv X pins σ H s) (r : RelV v u) (h : sp [v] H Q E0) : wpAny (model X.prog X.w) X.A.in1.in1 (call (.ref f) [u]) (EP X pins σ Q) (fun _ _ => False) s := by
  have hr2 : Room k X.A.in1.in1 := (show Room (k + 1) X.A.in1 from Room.in1 hr).in1
  have rv : Vals [v] [u] := .cons r .nil
  have hl : [u].length = ps.length := by rw [← rv.length]; exact F.len _ _ _ _ h
  have b := hb s [u] I.kIn (by rw [List.append_nil]; exact hl)
  rw [List.append_nil] at b
  refine wpAny_call (codeAny_mono (F.run X.A.in1.in1 X.stack s H ⟨[u], []⟩ [u] [v] Q E0 hr2 I.env0.in1.in1 b rv h) fun r s' hq => ?_)
  cases r with
  | error e => exact hq.elim
  | ok fl =>
    cases fl with
    | ret u => exact I.after hq
    | next => exact False.elim hq
    | brk => exact False.elim hq
    | cont => exact False.elim hq
end
section
variable {X : Cx} {H : Hp} {pins : List (Addr × Obj)} {s : Shared} {σ : L2.St}
/-- what stands at L besides is tracked, what is at kS may be as it likes -/
theorem track {L kS : Addr} {xs : List V} {h' : Heap} {t' : Nat} (I : L2.Inv X pins σ H s) (k : ∀ b o, b ≠ L → b ≠ kS → s.heap.get? b = some o → h'.get? b = some o) (fL : FpOk X pins H L) (fK : FpOk X pins H kS) (new : ObjOk X.prog X.w (upd H L (.lst xs)) h' L (.lst xs)) :
    L2.Inv X pins σ (upd H L (.lst xs)) { s with heap := h', toks := t' } := by
  obtain ⟨nL, a1, a2, a3, a4, a5⟩ := fL
  obtain ⟨nK, b1, b2, b3, b4, b5⟩ := fK
  have hne : ∀ b u, H b = some u → b ≠ L ∧ b ≠ kS := fun b u e => ⟨ne_of_none e nL, ne_of_none e nK⟩
  have oL : ∃ o, h'.get? L = some o := by
    obtain ⟨_, its, n, _, e⟩ := new
    exact ⟨_, e⟩
  have mem : ∀ b, b ∉ [L, kS] ↔ b ≠ L ∧ b ≠ kS := fun b => by simp
  refine I.call' (ch := [L, kS]) (s' := { s with heap := h', toks := t' }) rfl ⟨fun b o q _ _ hc => ?_, fun b o q _ _ hc => ?_, fun b o q n hc => ?_, fun b o q hc => ?_, fun b ys q => ?_, fun b o u q => ?_, fun b tt q => ⟨#[], ?_⟩⟩ (fun b u q => ?_) I.bare fun b hb => ?_
  · exact k b o ((mem b).mp hc).1 ((mem b).mp hc).2 q
  · exact ⟨o.slots, k b o ((mem b).mp hc).1 ((mem b).mp hc).2 q⟩
  · rw [upd_ne ((mem b).mp hc).1]
    exact n
  · exact ⟨o, k b o ((mem b).mp hc).1 ((mem b).mp hc).2 q⟩
  · rw [upd_ne (hne b _ q).1]
    exact q
  · rw [upd_ne (hne b _ q).1]
    exact q
  · rw [upd_ne (hne b _ q).1, q]
    simp
  · by_cases hb : b = L
    · rw [hb] at q ⊢
      rw [upd_same] at q
      cases q
      exact new
    · rw [upd_ne hb] at q
      refine (I.hok b u q).stay (fun c v hc y => ?_) (fun c y => ?_) fun c ys y => ?_
      · rcases hc with z | z
        · rw [z]
          rw [z] at y
          exact k b v hb (hne b _ q).2 y
        · exact k c v (hne c _ z).1 (hne c _ z).2 y
      · rw [upd_ne (hne c _ y).1]
        exact y
      · rw [upd_ne (hne c _ y).1]
        exact y
  · have hb : b = L ∨ b = kS := by simpa using hb
    rcases hb with rfl | rfl
    · exact ⟨a3, a1, a4, a5⟩
    · exact ⟨b3, b1, b4, b5⟩
theorem each_vals : ∀ {out : List Value} {ls : List (List Nat)}, EachIs (fun v t => RelV (S t) v) out ls → Vals (ls.map S) out
  | _, _, .nil => .nil
  | _, _, .cons r t => .cons r (each_vals t)
/-- where the keys stand -/
structure Keyed (X : Cx) (pins : List (Addr × Obj)) (σ : L2.St) (H : Hp) (L kS : Addr) (e1 : Nat) (ts : List (List Nat)) (n : List Nat → Int) (i : Nat) (s' : Shared) : Prop where
  ex : ∃ (Hj : Hp) (kA : Array Value) (e : Nat) (ps : List V), L2.Inv X pins σ Hj s' ∧ Ex H Hj ∧ Hj L = none ∧ Hj kS = none ∧ s'.heap.get? L = some (seqObj "list" #[] e1) ∧ s'.heap.get? kS = some (seqObj "list" kA e) ∧ Vals ps kA.toList ∧ ps.length = i ∧
    ∀ (j : Nat) (p : V) (t : List Nat), ps[j]? = some p → ts[j]? = some t → ∃ a : Addr, p = .ref a ∧ Hj a = some (.tup [.int (n t), S t])
theorem keys_done {E : Value → Shared → Prop} {L kS : Addr} {e1 : Nat} {ts : List (List Nat)} {n : List Nat → Int} {its : List Value} {s' : Shared} {Q : VK} (hfL : ∀ Hj : Hp, Hj L = none → FpOk X pins Hj L) (hfK : ∀ Hj : Hp, Hj kS = none → FpOk X pins Hj kS) (ne : kS ≠ L)
    (hr : X.A.units + 100 < cLine) (rv : Vals (ts.map S) its) (hz : ts.length ≤ 1000000) (D : Keyed X pins σ H L kS e1 ts n ts.length s') (hHL : H L = none)
    (q : ∀ H', Ex H H' → H' L = some (.lst ((ts.mergeSort (dataLe false (kD n))).map S)) → Q (.ref L) H') :
    wpAny (model X.prog X.w) X.A.in1.in1 (do let keys ← Builtin.List.listItems (.ref kS); ksk_end L false its.toArray e1 (.ref kS) keys) (fun f s' => f = .done (.ret .none) ∧ EP X pins σ Q (.ref L) s') E s' := by
  obtain ⟨Hj, kA, e, ps, I, ex, hL, hK, oL, oK, rp, lp, hp⟩ := D.ex
  have lits : its.length = ts.length := by
    have := rv.length
    rw [List.length_map] at this
    exact this.symm
  have lk : kA.size = its.length := by
    have h1 := rp.length
    have h2 : kA.toList.length = kA.size := Array.length_toList
    omega
  obtain ⟨G, g1, g2⟩ := restrict s'.heap fun b => !decide (b = kS)
  refine wpAny_bind (listItems_at oK rfl ?_)
  have each : EachIs (fun v d => ∃ as, Reads s'.heap v d as) kA.toList (ts.map (kD n)) := by
    refine eachIs_of (by rw [Array.length_toList, List.length_map]; omega) fun i v d hv hd => ?_
    rw [List.getElem?_map] at hd
    cases ht : ts[i]? with
    | none => rw [ht] at hd; cases hd
    | some t =>
      rw [ht] at hd
      obtain rfl := (Option.some.inj hd).symm
      have hi : i < ps.length := by
        have := (List.getElem?_eq_some_iff.mp ht).1
        omega
      obtain ⟨v', hv', rr⟩ := rp.get (List.getElem?_eq_getElem hi)
      rw [hv] at hv'
      cases hv'
      obtain ⟨a, ea, ha⟩ := hp i _ t (List.getElem?_eq_getElem hi) ht
      rw [ea] at rr
      exact Dp.reads I (kD n t) _ _ (.tup (.inl (.inl ha)) (.cons (.int _) (.cons (.str _) .nil))) rr
  have hu : ∀ d, d ∈ ts.map (kD n) → X.A.in1.in1.units + d.depth < cLine := fun d hd => by
    obtain ⟨t, _, rfl⟩ := List.mem_map.mp hd
    have h1 := kD_depth n t
    show X.A.units + 1 + 1 + (kD n t).depth < cLine
    omega
  have zL : its.length ≤ sizeLine := by rw [lits, sizeLine_eq]; omega
  refine keyH_end (κ := dataKind s'.heap (ts.map (kD n))) (h₁ := G) (fun b o hb eb => ?_) (g2 kS (by simp)) oK oL ne (SortsAt.data each (kD_alike n ts) (kD_sortable n ts) hu) lk zL fun h' tk c kb hL' => ?_
  · by_cases h : b = kS
    · rw [h, g2 kS (by simp)] at eb
      cases eb
    · rw [g1 b (by simp [h])] at eb
      exact eb
  · have ko : KeyedOut false (ts.map (kD n)) its (sortVals (dataKind s'.heap (ts.map (kD n))) false kA.toList its) := ⟨s'.heap, kA.toList, kD_alike n ts, rfl, each⟩
    have ev : EachIs (fun v t => RelV (S t) v) its ts := by
      refine eachIs_of lits fun i v t hv ht => ?_
      obtain ⟨v', hv', rr⟩ := rv.get (i := i) (x := S t) (by rw [List.getElem?_map, ht]; rfl)
      rw [hv] at hv'
      cases hv'
      exact rr
    have eo := keyedOut_each (kD n) ko ev
    have vo : Vals ((ts.mergeSort (dataLe false (kD n))).map S) (sortVals (dataKind s'.heap (ts.map (kD n))) false kA.toList its) := each_vals eo
    have zo : ((ts.mergeSort (dataLe false (kD n))).map S).length ≤ sizeLine := by
      rw [List.length_map, List.length_mergeSort, sizeLine_eq]
      omega
    have kk : ∀ b o, b ≠ L → b ≠ kS → s'.heap.get? b = some o → h'.get? b = some o := fun b o h1 h2 e => kb b o h1 (by rw [g1 b (by simp [h2])]; exact e)
    refine ⟨rfl, V.ref L, upd Hj L (.lst ((ts.mergeSort (dataLe false (kD n))).map S)), track I kk (hfL Hj hL) (hfK Hj hK) ⟨zo, _, c, vo, hL'⟩, rfl, q _ (Ex.mut ex hHL) upd_same⟩
end
/-- what sorted(texts, key=f) asks: f makes a pair of a number and the text -/
def rSortK (X : Cx) : List V → List V → Hp → VK → Prop := fun vs zs H Q => ∃ (a f : Addr) (ts : List (List Nat)) (n : List Nat → Int) (fd : FuncData) (ps : List PySem.Str) (sp : Sp) (k : Nat), vs = [.ref a] ∧ zs = [.ref f] ∧ SqL X.K H a (ts.map S) ∧ ts.length ≤ 1000000 ∧
  FnOk X.prog X.w X.K X.mg X.base CX0 k f fd ps sp ∧ Binds X.K fd ps [] ∧ Room (k + 2) X.A ∧ (∀ t ∈ ts, ∀ H1, Ex H H1 → sp [S t] H1 (fun v H2 => ∃ p, v = .ref p ∧ Ex H1 H2 ∧ H2 p = some (.tup [.int (n t), S t])) E0) ∧
  ∀ p H', H p = none → Ex H H' → H' p = some (.lst ((ts.mergeSort (dataLe false (kD n))).map S)) → Q (.ref p) H'
section
variable {X : Cx}
theorem cr_sortK : CallRK X (.builtin "sorted") [Str.ofString "key"] (rSortK X) := by
  (intro pins s σ H vs zs us ws Q I r rz h)
  obtain ⟨a, f, ts, n, fd, ps, sp, k, rfl, rfl, hs, hz, F, hb, hr, hsp, q⟩ := h
  obtain rfl := Vals.ref1 r
  (obtain ⟨w1, rfl, e1⟩ := vals1 rz)
  obtain rfl : w1 = Value.ref f := e1
  obtain ⟨its, rv, hl, hzl⟩ := I.list hs
  have lits : its.length = ts.length := by
    have := rv.length
    rw [List.length_map] at this
    exact this.symm
  have zL : its.length ≤ sizeLine := by rw [lits, sizeLine_eq]; omega
  show wpAny (model X.prog X.w) X.A (call (.builtin "sorted") [.ref a] [(Str.ofString "key", .ref f)]) (EP X pins σ Q) X.xe s
  refine sorted_of_sort (vs := its) hl.isList zL (ksk_s1 _ _) (fun _ => ksk_l1 _ _) fun E' => ?_
  rw [ksk_t1]
  have ho := copyHeap_at s.heap its
  obtain ⟨e1, ho1⟩ : ∃ e1, ((copyHeap s.heap its).update (s.heap.objs.size + 1) (Obj.mapSeq fun _ => (#[] : Array Value))).get? (s.heap.objs.size + 1) = some (seqObj "list" #[] e1) := ⟨_, get?_update_seq ho fun _ => #[]⟩
  have hL : H (s.heap.objs.size + 1) = none := I.hok.fresh (Nat.le_succ _)
  have fL : ∀ Hj : Hp, Hj (s.heap.objs.size + 1) = none → FpOk X pins Hj (s.heap.objs.size + 1) := fun Hj h => I.fpOk (Nat.le_succ _) h
  have szc : s.heap.objs.size + 1 < (copyHeap s.heap its).objs.size := Heap.lt_size ho
  unfold ksk_tree
  (refine wpAny_bind (listItems_at ho rfl ?_))
  refine wpAny_bind (listUpdate_at ho rfl ?_ (by rw [List.size_toArray]; exact zL) (Nat.zero_le _))
  (refine wpAny_bind (seqEpoch_at ho1 rfl ?_))
  refine wpAny_bind (wpAny_newTuple ?_ (by show its.length ≤ _; exact zL))
  (refine wpAny_bind (wpAny_newList ?_ (Nat.zero_le _)))
  refine wpAny_holding ?_
  obtain ⟨g2, eg2⟩ : ∃ g2, g2 = ((copyHeap s.heap its).update (s.heap.objs.size + 1) (Obj.mapSeq fun _ => (#[] : Array Value))).push (seqObj "tuple" its.toArray 0) := ⟨_, rfl⟩
  have o2 : g2.get? (s.heap.objs.size + 1) = some (seqObj "list" #[] e1) := by rw [eg2]; exact Heap.get?_push_of_some _ ho1
  have old2 : ∀ b u, s.heap.get? b = some u → g2.get? b = some u := fun b u e => by
    rw [eg2]
    refine Heap.get?_push_of_some _ ?_
    rw [Heap.get?_update_ne _ _ _ _ (Nat.ne_of_lt (Nat.lt_succ_of_lt (Heap.lt_size e)))]
    exact copyHeap_old e
  have sz2 : s.heap.objs.size + 1 < g2.objs.size := Heap.lt_size o2
  have ne : g2.objs.size ≠ s.heap.objs.size + 1 := Nat.ne_of_gt sz2
  have fK : ∀ Hj : Hp, Hj g2.objs.size = none → FpOk X pins Hj g2.objs.size := fun Hj h => I.fpOk (by omega) h
  show wpAny (model X.prog X.w) X.A.in1.in1 (ksk_rest (s.heap.objs.size + 1) (.ref f) false its.toArray e1 (.ref (((copyHeap s.heap its).update (s.heap.objs.size + 1) (Obj.mapSeq fun _ => (#[] : Array Value))).push (seqObj "tuple" its.toArray 0)).objs.size)) _ _
    { s with heap := (((copyHeap s.heap its).update (s.heap.objs.size + 1) (Obj.mapSeq fun _ => (#[] : Array Value))).push (seqObj "tuple" its.toArray 0)).push (seqObj "list" #[] 0) }
  rw [← eg2]
  have I3 : L2.Inv X pins σ H { s with heap := g2.push (seqObj "list" #[] 0) } := I.kept (t' := s.toks) fun b u e => Heap.get?_push_of_some _ (old2 b u e)
  unfold ksk_rest
  (refine wpAny_bind (wpAny_rule ?_))
  first
    | rw [List.forIn_toArray]
    | ((rw [← Array.forIn_toList]); (simp only [List.toList_toArray]))
    | rw [← Array.forIn_toList]
  refine wpAny_bind (ksk_fold (fun i s' => Keyed X pins σ H (s.heap.objs.size + 1) g2.objs.size e1 ts n i s') its 0 _ ?start ?step ?done)
  case start =>
    exact ⟨H, #[], 0, [], I3, Ex.refl H, hL, I.hok.fresh (by omega), Heap.get?_push_of_some _ o2, Heap.get?_push_size _ rfl, .nil, rfl, fun j p t e => by simp at e⟩
  case step =>
    rintro j x s' hx ⟨Hj, kA, e, ps', I', ex, hjL, hjK, oL, oK, rp, lp, hp⟩
    simp only [Nat.zero_add] at lp ⊢
    have hj : j < its.length := (List.getElem?_eq_some_iff.mp hx).1
    obtain ⟨t, ht⟩ : ∃ t, ts[j]? = some t := ⟨_, List.getElem?_eq_getElem (by omega)⟩
    obtain ⟨v', hv', rr⟩ := rv.get (i := j) (x := S t) (by rw [List.getElem?_map, ht]; rfl)
    rw [hx] at hv'
    cases hv'
    have kz : kA.size = j := by
      have h1 := rp.length
      have h2 : kA.toList.length = kA.size := Array.length_toList
      omega
    have stat : ∀ b ∈ [s.heap.objs.size + 1, g2.objs.size], FpOk X pins Hj b := fun b hb => by
      have hb : b = s.heap.objs.size + 1 ∨ b = g2.objs.size := by simpa using hb
      rcases hb with rfl | rfl
      · exact fL Hj hjL
      · exact fK Hj hjK
    have I5 := I'.pinned (fp := [s.heap.objs.size + 1, g2.objs.size]) stat (fun b hb => by
      have hb : b = s.heap.objs.size + 1 ∨ b = g2.objs.size := by simpa using hb
      rcases hb with rfl | rfl
      · exact ⟨_, oL, fun v z => nomatch z⟩
      · exact ⟨_, oK, fun v z => nomatch z⟩)
    refine wpAny_bind (wpAny_attempt (wpAny_mono (run_fn2 F hr hb I5 rr (hsp t (List.mem_of_getElem? ht) Hj ex)) (fun u s'' he => ?_) fun _ _ hF => hF.elim))
    obtain ⟨v, H', I6, rv6, p, rfl, e6, h6⟩ := he
    obtain rfl : u = Value.ref p := rv6
    have pL := I6.pin (s.heap.objs.size + 1, seqObj "list" #[] e1) (List.mem_append_right _ (List.mem_append_right _ (mem_pinsAt (by simp) oL)))
    have pK := I6.pin (g2.objs.size, seqObj "list" kA e) (List.mem_append_right _ (List.mem_append_right _ (mem_pinsAt (by simp) oK)))
    try dsimp only
    have nkL : s''.heap.get? (s.heap.objs.size + 1) = some (seqObj "list" #[] e1) := pL.1
    have nkK : s''.heap.get? g2.objs.size = some (seqObj "list" kA e) := pK.1
    obtain ⟨c2, hc2⟩ : ∃ c2, (s''.heap.update g2.objs.size (Obj.mapSeq (·.push (Value.ref p)))).get? g2.objs.size = some (seqObj "list" (kA.push (Value.ref p)) c2) := ⟨_, get?_update_seq nkK (·.push (Value.ref p))⟩
    refine wpAny_bind (listUpdate_at nkK rfl ?_ (by rw [kz]; omega) (by rw [Array.size_push, kz]; omega))
    have upd' : ∀ b o, b ≠ g2.objs.size → s''.heap.get? b = some o → (s''.heap.update g2.objs.size (Obj.mapSeq (·.push (Value.ref p)))).get? b = some o := fun b o h e => by
      rw [Heap.get?_update_ne _ _ _ _ h]
      exact e
    obtain ⟨f0, f1, f2, f3, f4, f5⟩ := fK H' pK.2.1
    have I7 : L2.Inv X pins σ H' { s'' with heap := s''.heap.update g2.objs.size (Obj.mapSeq (·.push (Value.ref p))) } := I6.unpinned.turned (t' := s''.toks) (fun b o h e => upd' b o h e) f0 f1 f3 f4 f5
    refine wpAny_pure ⟨rfl, H', kA.push (Value.ref p), c2, ps' ++ [.ref p], I7, ex.trans e6, pL.2.1, pK.2.1, upd' _ _ ne.symm nkL, hc2, ?_, ?_, fun i q' t' hq ht' => ?_⟩
    · rw [Array.toList_push]
      exact rp.append (.cons rfl .nil)
    · rw [List.length_append, List.length_singleton, lp]
    · rcases Nat.lt_or_ge i ps'.length with h1 | h1
      · rw [List.getElem?_append_left h1] at hq
        obtain ⟨a', ea, ha⟩ := hp i q' t' hq ht'
        exact ⟨a', ea, e6 _ _ ha⟩
      · have h2 := (List.getElem?_eq_some_iff.mp hq).1
        rw [List.length_append, List.length_singleton] at h2
        obtain rfl : i = ps'.length := by omega
        obtain rfl : V.ref p = q' := by simpa using hq
        rw [lp] at ht'
        rw [ht] at ht'
        cases ht'
        exact ⟨p, rfl, h6⟩
  case done =>
    intro s' D
    rw [Nat.zero_add, lits] at D
    refine keys_done fL fK ne ?_ rv hz D hL fun H' ex h' => q _ H' hL ex h'
    have := hr.un
    omega
end
end TY

/-! two for in one comprehension; xs[::-1]; lists of texts compared; sorted(.., key=f) by steps -/
namespace TY
open PySem PyProof.Rows PySem.Spec L2 CwR

theorem sqL_ne {K : PySem.W.Frag} {H : Hp} {p L : Addr} {o : HO} {xs : List V} (h : SqL K H p xs) (n : p ≠ L) : SqL K (upd H L o) p xs := by
  rcases h with (h | ⟨u, h⟩) | h
  · exact .inl (.inl (by rw [upd_ne n]; exact h))
  · exact .inl (.inr ⟨u, by rw [upd_ne n]; exact h⟩)
  · exact .inr h
section
variable {K : PySem.W.Frag} {σ : L2.St} {H : Hp} {D : Ends} {te to : TE} {wi1 : TI} {Q : VK} {vs vs1 : List Nat} {α β : Type}
def qLc2 (J : It) (g : TG) (tt : TT) (wi1 : TI) (g1 : TG) (tt1 : TT) (te : TE) (vs vs1 : List Nat) : TE := tLc2 (fun _ H R => R J H) g tt wi1 g1 tt1 te vs vs1
theorem go_lc2 {J : It} {G : Hp → Prop} {Y : Nat → Hp → V → Hp → Prop} {l : List α} {enc : α → V} {encB : β → V} {j j1 : Nat} (f : α → List β) (v : α → β → V) (w : Walk J l.length G Y) (hY : ∀ i H x H', i < l.length → Y i H x H' → H' = H ∧ ∃ a, l[i]? = some a ∧ x = enc a) (hG : ∀ H1, Ex H H1 → G H1)
    (hz : (l.flatMap f).length ≤ 1000000) (hw : ∀ x, wipe ((wipe σ vs).set j (some x)) vs = wipe σ vs)
    (hw1 : ∀ x y, wipe ((wipe ((wipe σ vs).set j (some x)) vs1).set j1 (some y)) vs1 = wipe ((wipe σ vs).set j (some x)) vs1)
    (hi1 : ∀ L a H1, H L = none → (∃ xs, H1 L = some (.lst xs)) → a ∈ l → Ex H H1 → ∀ R : It → Hp → Prop, (∀ p H2, p ≠ L → Ex H1 H2 → SqL K H2 p ((f a).map encB) → R (Itl K p) H2) → wi1 ((wipe σ vs).set j (some (enc a))) H1 R)
    (he : ∀ a b H1, a ∈ l → b ∈ f a → Ex H H1 → ∀ R : VK, (∀ H2, Ex H1 H2 → R (v a b) H2) → te ((wipe ((wipe σ vs).set j (some (enc a))) vs1).set j1 (some (encB b))) H1 R)
    (hq : ∀ p H1, H p = none → Ex H H1 → H1 p = some (.lst (l.flatMap fun a => (f a).map (v a))) → Q (.ref p) H1) :
    tLc2 (fun _ H R => R J H) (gName j) tYes wi1 (gName j1) tYes te vs vs1 σ H Q := by
  intro L hL
  refine ⟨fun i m H1 => m + i = l.length ∧ Ex H H1 ∧ H1 L = some (.lst ((l.take i).flatMap fun a => (f a).map (v a))), ⟨l.length, rfl, Ex.mut (Ex.refl H) hL, upd_same⟩, ?_⟩
  rintro i m H1 ⟨hm, ex, hL1⟩
  rcases Nat.lt_or_ge i l.length with hlt | hge
  · refine .inr ⟨w.goes i H1 hlt (hG _ ex), fun H' => Ex H H' ∧ H' L = some (.lst ((l.take (i + 1)).flatMap fun a => (f a).map (v a))), fun H' h => ⟨m - 1, by omega, by omega, h.1, h.2⟩, fun x H' hy => ?_⟩
    obtain ⟨rfl, a, ha, rfl⟩ := hY _ _ _ _ hlt (w.yields i H1 x H' hlt (hG _ ex) hy)
    have ma := List.mem_of_getElem? ha
    refine ⟨hw _, ?_⟩
    refine x_yes ?_
    rw [if_pos rfl]
    refine hi1 L a H' hL ⟨_, hL1⟩ ma ex _ fun p H2 np e2 hp => ?_
    have et : l.take (i + 1) = l.take i ++ [a] := by
      rw [List.take_add_one, ha]
      rfl
    have w1 := walk_list (K := K) (a := p) (xs := (f a).map encB)
    rw [List.length_map] at w1
    refine ⟨fun jj kk H3 => kk + jj = (f a).length ∧ Ex H H3 ∧ SqL K H3 p ((f a).map encB) ∧ H3 L = some (.lst (((l.take i).flatMap fun a => (f a).map (v a)) ++ ((f a).take jj).map (v a))), ⟨(f a).length, rfl, ex.trans e2, hp, by rw [List.take_zero, List.map_nil, List.append_nil]; exact e2 _ _ hL1⟩, ?_⟩
    rintro jj kk H3 ⟨hk, ex3, hp3, hL3⟩
    rcases Nat.lt_or_ge jj (f a).length with hlt1 | hge1
    · refine .inr ⟨w1.goes jj H3 hlt1 hp3, fun H' => Ex H H' ∧ SqL K H' p ((f a).map encB) ∧ H' L = some (.lst (((l.take i).flatMap fun a => (f a).map (v a)) ++ ((f a).take (jj + 1)).map (v a))), fun H' h => ⟨kk - 1, by omega, by omega, h.1, h.2.1, h.2.2⟩, fun y H4 hy4 => ?_⟩
      obtain ⟨rfl, hx⟩ := w1.yields jj H3 y H4 hlt1 hp3 hy4
      rw [List.getElem?_map] at hx
      cases hb : (f a)[jj]? with
      | none => rw [hb] at hx; cases hx
      | some b =>
        rw [hb] at hx
        obtain rfl := (Option.some.inj hx).symm
        refine ⟨hw1 _ _, ?_⟩
        refine x_yes ?_
        rw [if_pos rfl]
        refine he a b H4 ma (List.mem_of_getElem? hb) ex3 _ fun H5 e5 => ?_
        have et1 : (f a).take (jj + 1) = (f a).take jj ++ [b] := by
          rw [List.take_add_one, hb]
          rfl
        refine ⟨_, e5 _ _ hL3, ?_, Ex.mut (ex3.trans e5) hL, sqL_ne (e5.sqL hp3) np, ?_⟩
        · have h1 : ((l.take i).flatMap f).length + (f a).length ≤ (l.flatMap f).length := by
            have h2 : l.flatMap f = (l.take i).flatMap f ++ (l.drop i).flatMap f := by rw [← List.flatMap_append, List.take_append_drop]
            rw [h2, List.length_append, take_drop_cons ha, List.flatMap_cons, List.length_append]
            omega
          have h3 : ((l.take i).flatMap fun a => (f a).map (v a)).length = ((l.take i).flatMap f).length := by
            simp only [List.length_flatMap, List.length_map]
          rw [List.length_append, h3, List.length_map, List.length_take, sizeLine_eq]
          omega
        · rw [upd_same, et1, List.map_append, List.append_assoc]
          rfl
    · obtain rfl : jj = (f a).length := by omega
      refine .inl ⟨w1.stops H3 hp3, ex3, ?_⟩
      rw [hL3, List.take_length, et, List.flatMap_append]
      simp
  · obtain rfl : i = l.length := by omega
    refine .inl ⟨w.stops H1 (hG _ ex), ?_⟩
    rw [List.take_length] at hL1
    exact hq L H1 hL ex hL1
theorem lc2_L {q : Addr} {l : List α} {enc : α → V} {encB : β → V} {j j1 : Nat} (f : α → List β) (v : α → β → V) (hp : SqL K H q (l.map enc))
    (hz : (l.flatMap f).length ≤ 1000000) (hw : ∀ x, wipe ((wipe σ vs).set j (some x)) vs = wipe σ vs)
    (hw1 : ∀ x y, wipe ((wipe ((wipe σ vs).set j (some x)) vs1).set j1 (some y)) vs1 = wipe ((wipe σ vs).set j (some x)) vs1)
    (hi1 : ∀ L a H1, H L = none → (∃ xs, H1 L = some (.lst xs)) → a ∈ l → Ex H H1 → ∀ R : It → Hp → Prop, (∀ p H2, p ≠ L → Ex H1 H2 → SqL K H2 p ((f a).map encB) → R (Itl K p) H2) → wi1 ((wipe σ vs).set j (some (enc a))) H1 R)
    (he : ∀ a b H1, a ∈ l → b ∈ f a → Ex H H1 → ∀ R : VK, (∀ H2, Ex H1 H2 → R (v a b) H2) → te ((wipe ((wipe σ vs).set j (some (enc a))) vs1).set j1 (some (encB b))) H1 R)
    (hq : ∀ p H1, H p = none → Ex H H1 → H1 p = some (.lst (l.flatMap fun a => (f a).map (v a))) → Q (.ref p) H1) :
    qLc2 (Itl K q) (gName j) tYes wi1 (gName j1) tYes te vs vs1 σ H Q := by
  have w := walk_list (K := K) (a := q) (xs := l.map enc)
  rw [List.length_map] at w
  refine go_lc2 (l := l) (enc := enc) f v w (fun i H x H' hi hy => ?_) (fun H1 e => e.sqL hp) hz hw hw1 hi1 he hq
  obtain ⟨e1, hx⟩ := hy
  rw [List.getElem?_map] at hx
  cases y : l[i]? with
  | none => rw [y] at hx; cases hx
  | some a => rw [y] at hx; exact ⟨e1, a, rfl, (Option.some.inj hx).symm⟩
theorem lc2_S {l : List Nat} {encB : β → V} {j j1 : Nat} (f : Nat → List β) (v : Nat → β → V)
    (hz : (l.flatMap f).length ≤ 1000000) (hw : ∀ x, wipe ((wipe σ vs).set j (some x)) vs = wipe σ vs)
    (hw1 : ∀ x y, wipe ((wipe ((wipe σ vs).set j (some x)) vs1).set j1 (some y)) vs1 = wipe ((wipe σ vs).set j (some x)) vs1)
    (hi1 : ∀ L a H1, H L = none → (∃ xs, H1 L = some (.lst xs)) → a ∈ l → Ex H H1 → ∀ R : It → Hp → Prop, (∀ p H2, p ≠ L → Ex H1 H2 → SqL K H2 p ((f a).map encB) → R (Itl K p) H2) → wi1 ((wipe σ vs).set j (some (S [a]))) H1 R)
    (he : ∀ a b H1, a ∈ l → b ∈ f a → Ex H H1 → ∀ R : VK, (∀ H2, Ex H1 H2 → R (v a b) H2) → te ((wipe ((wipe σ vs).set j (some (S [a]))) vs1).set j1 (some (encB b))) H1 R)
    (hq : ∀ p H1, H p = none → Ex H H1 → H1 p = some (.lst (l.flatMap fun a => (f a).map (v a))) → Q (.ref p) H1) :
    qLc2 (Its (st l)) (gName j) tYes wi1 (gName j1) tYes te vs vs1 σ H Q := by
  have e : (st l).cps.size = l.length := by simp [st]
  have w := walk_str (z := st l)
  rw [e] at w
  refine go_lc2 (l := l) (enc := fun c => S [c]) f v w (fun i H x H' hi hy => ?_) (fun _ _ => trivial) hz hw hw1 hi1 he hq
  obtain ⟨e1, c, hc, e2⟩ := hy
  exact ⟨e1, c, by simpa [st] using hc, e2⟩
theorem x_lc2 {wi : TI} {g g1 : TG} {tt tt1 : TT} (h : wi σ H fun J H1 => qLc2 J g tt wi1 g1 tt1 te vs vs1 σ H1 Q) : tLc2 wi g tt wi1 g1 tt1 te vs vs1 σ H Q := h
/-! within a comprehension: the fragment by its name -/
theorem pi_listK {X : Cx} {K : PySem.W.Frag} {tg l : Expr} {tl : TE} (hK : X.K = K) (hl : PE X l tl) : PI X tg l (iList K tl) := by
  subst hK
  exact pi_list hl
theorem op_in_seqK {X : Cx} {K : PySem.W.Frag} (hK : X.K = K) : OpR X (compareOp .In) (rIn K false) := by
  subst hK
  exact op_in_seq
theorem op_notIn_seqK {X : Cx} {K : PySem.W.Frag} (hK : X.K = K) : OpR X (compareOp .NotIn) (rIn K true) := by
  subst hK
  exact op_notIn_seq
/-! keywords -/
theorem x_ckw {r : List V → List V → Hp → VK → Prop} {t tk : TA} (h : t σ H fun vs H1 => tk σ H1 fun zs H2 => r vs zs H2 Q) : tCKw r t tk σ H Q := h
/-! all -/
theorem x_all {a : Addr} {bs : List Bool} (hx : SqL K H a (bs.map V.bl)) (h : Q (.bl (bs.all id)) H) : rAll K [.ref a] H Q := ⟨a, bs, rfl, hx, h⟩
theorem x_isiB {b : Bool} {T : String} {c : Bool} (hk : PySem.W.kitOne K (.type "bool") (.type T) = some c) (h : Q (.bl c) H) : rIsi K [.bl b, .ty T] H Q := ⟨.bl b, .ty T, .type "bool", .type T, c, rfl, .ty T, .base (.bl b), hk, h⟩
theorem x_eqB {a b : Bool} (h : Q (.bl (decide (a = b))) H) : rEq (.bl a) (.bl b) H Q := by
  refine ⟨rfl, ?_⟩
  have e : decide (V.bl a = V.bl b) = decide (a = b) := by simp
  rw [e]
  exact h
end
/-! lists of texts as data -/
theorem dp_texts {K : PySem.W.Frag} {H : Hp} : ∀ ts : List (List Nat), DpAll K H (ts.map S) (ts.map fun t => PyData.str (st t))
  | [] => .nil
  | t :: ts => .cons (.str _) (dp_texts ts)
theorem eqv_texts : ∀ ts : List (List Nat), PyData.eqvAll (ts.map fun t => PyData.str (st t)) (ts.map fun t => PyData.str (st t)) = true
  | [] => by simp [PyData.eqvAll]
  | t :: ts => by
    have h := eqv_texts ts
    simp only [List.map_cons, PyData.eqvAll, PyData.eqv, h]
    simp
theorem eqv_list (ts : List (List Nat)) : PyData.eqv (.list (ts.map fun t => PyData.str (st t))) (.list (ts.map fun t => PyData.str (st t))) = true := by
  have h := eqv_texts ts
  simp only [PyData.eqv, h]
theorem strOk_lt {l : List Nat} (h : ∀ c ∈ l, c < 1000) : PyData.strOk (st l) = true := by
  unfold PyData.strOk
  rw [← Array.all_toList, st_cps, List.all_eq_true]
  intro c hc
  have := h c hc
  simp
  omega
theorem shaped_texts {ts : List (List Nat)} (h : ∀ t ∈ ts, ∀ c ∈ t, c < 1000) : SeqAt.shaped (.list (ts.map fun t => PyData.str (st t))) = true := by
  have h1 : PyData.canLayAll0 (ts.map fun t => PyData.str (st t)) = true := by
    induction ts with
    | nil => simp [PyData.canLayAll0]
    | cons t ts ih =>
      have h2 := strOk_lt (h t List.mem_cons_self)
      simp [PyData.canLayAll0, PyData.canLay0, h2, ih fun u hu => h u (List.mem_cons_of_mem _ hu)]
  have h2 : PyData.depthAll (ts.map fun t => PyData.str (st t)) = 0 := by
    have : ∀ us : List (List Nat), PyData.depthAll (us.map fun t => PyData.str (st t)) = 0 := fun us => by
      induction us with
      | nil => simp [PyData.depthAll]
      | cons t us ih => simp [PyData.depthAll, PyData.depth, ih]
    exact this ts
  unfold SeqAt.shaped
  simp [PyData.canLay0, PyData.depth, h1, h2]
/-! ### xs[::-1] -/
theorem slicePick_rev (its : List Value) : slicePick its.toArray none none (some (-1)) = its.reverse.toArray := by
  unfold slicePick
  have e : sliceBounds none none (some (-1)) its.toArray.size = ((its.length : Int) - 1, -1, -1) := by
    unfold sliceBounds
    simp
  rw [e]
  refine congrArg List.toArray ?_
  show (let count : Int := (if (its.length : Int) - 1 > -1 then ((its.length : Int) - 1 - -1 - -1 - 1) / (- -1) else 0); (List.range count.toNat).map fun (k : Nat) => ((its.length : Int) - 1 + -1 * (k : Int)).toNat).filterMap _ = _
  dsimp only
  have ec : (if (its.length : Int) - 1 > -1 then ((its.length : Int) - 1 - -1 - -1 - 1) / (- -1) else 0).toNat = its.length := by
    split
    · rw [show (- -1 : Int) = 1 from rfl, Int.ediv_one]; omega
    · omega
  rw [ec, List.filterMap_map]
  have ih := rev_pick its.reverse []
  rw [List.length_reverse, List.reverse_reverse, List.append_nil] at ih
  refine Eq.trans ?_ ih
  refine congrArg (fun f => List.filterMap f (List.range its.length)) ?_
  funext k
  show its.toArray[((its.length : Int) - 1 + -1 * (k : Int)).toNat]? = its[its.length - 1 - k]?
  rw [List.getElem?_toArray, show ((its.length : Int) - 1 + -1 * (k : Int)).toNat = its.length - 1 - k by omega]
theorem vals_rev {xs : List V} {us : List Value} (h : Vals xs us) : Vals xs.reverse us.reverse := by
  have hl := h.length
  refine L2.vals_of_at (by simp [hl]) fun j x u e1 e2 => ?_
  have l1 := (List.getElem?_eq_some_iff.mp e1).1
  rw [List.length_reverse] at l1
  rw [List.getElem?_reverse (by omega)] at e1
  rw [List.getElem?_reverse (by omega), ← hl] at e2
  obtain ⟨u2, e3, rr⟩ := h.get e1
  rw [e2] at e3
  cases e3
  exact rr
def rRevA (K : PySem.W.Frag) : V → Option Int → Option Int → Option Int → Hp → VK → Prop := fun x lo hi stp H Q => lo = none ∧ hi = none ∧ stp = some (-1) ∧ ∃ a xs, x = .ref a ∧ SqL K H a xs ∧ ∀ p, H p = none → Q (.ref p) (upd H p (.lst xs.reverse))
section
variable {X : Cx} {e stp : Expr} {te : TE} {lo hi : Option Expr} {tl th ts : TO} {pos p2 : Pos}
theorem pe_sliceRA (he : PE X e te) (hl : PO X lo tl) (hu : PO X hi th) (hs : PO X (some stp) ts) : PE X (.Subscript e (.Slice lo hi (some stp) p2) pos) (tSl3 (rRevA X.K) te tl th ts) := by
  (refine ⟨fun pins s σ H Q I h => ?_⟩)
  (refine Subscript_ (thn (he.run pins s σ H _ I h) fun v s1 ⟨x, H1, I1, r1, q1⟩ => ?_))
  refine wpAny_Slice (thn (hl.run pins s1 σ H1 _ I1 q1) fun vl s2 ⟨l, H2, I2, pl, q2⟩ => thn (hu.run pins s2 σ H2 _ I2 q2) fun vu s3 ⟨u, H3, I3, pu, q3⟩ => thn (hs.run pins s3 σ H3 _ I3 q3) fun vk s4 ⟨k, H4, I4, pk, q4⟩ => ?_)
  obtain ⟨rfl, rfl, rfl, a, xs, rfl, hx, q⟩ := q4
  have I5 : Inv X pins σ H4 { s4 with heap := s4.heap.push { cls := .type "slice", data := .fields #[vl, vu, vk] } } := I4.kept (t' := s4.toks) fun b ob q => Heap.get?_push_of_some _ q
  cases r1
  obtain ⟨its, r, ht, hz2⟩ := I5.list hx
  have hlen := r.length
  show wpAny (model X.prog X.w) X.A (subscriptTail e (.Slice lo hi (some stp) p2) (.ref a) (.ref s4.heap.objs.size)) (EP X pins σ Q) X.xe { s4 with heap := s4.heap.push { cls := .type "slice", data := .fields #[vl, vu, vk] } }
  refine tail_any (ops := [.ref a, .ref s4.heap.objs.size]) ht.isList.typeIs slot_list_getitem.lookup ?_ (by with_unfolding_all rfl)
  refine wpAny_getItem_list_slice ht.isList (Heap.IsSliceOf.new ..) pl pu pk (by decide) ?_ (by rw [List.size_toArray] <;> omega)
  rw [slicePick_rev]
  (refine ⟨.ref _, _, I5.laid (t' := s4.toks) (o := .lst xs.reverse) (fun b ob q => Heap.get?_push_of_some _ q) (Nat.le_refl _) ?_, rfl, q _ (I5.hok.fresh (Nat.le_refl _))⟩)
  exact ⟨by rw [List.length_reverse]; omega, _, 0, vals_rev r, Heap.get?_push_size _ rfl⟩
end
theorem x_revA {K : PySem.W.Frag} {H : Hp} {Q : VK} {a : Addr} {xs : List V} (hx : SqL K H a xs) (h : ∀ q H', H q = none → Ex H H' → H' q = some (.lst xs.reverse) → Q (.ref q) H') : rRevA K (.ref a) none none (some (-1)) H Q :=
  ⟨rfl, rfl, rfl, a, xs, rfl, hx, fun p hp => h p _ hp ((Ex.refl H).new hp) upd_same⟩
end TY

/-! a comprehension of drawings; what stands behind; places; keys -/
namespace TY
open PySem PyProof.Rows PySem.Spec L2

/-! a comprehension over numbers whose items come from drawings -/
theorem lc_Rg {σ : L2.St} {H : Hp} {tt : TT} {te : TE} {Q : VK} {vs : List Nat} {n j : Nat} {lo : Int} (Pv : Addr → Nat → List V → Hp → Prop) (hz : n ≤ 1000000)
    (hw : ∀ x, wipe ((wipe σ vs).set j (some x)) vs = wipe σ vs)
    (h0 : ∀ L, H L = none → Pv L 0 [] (upd H L (.lst [])))
    (ht : ∀ i H1 (R : Bool → Hp → Prop), R true H1 → tt ((wipe σ vs).set j (some (.int (lo + (i : Nat))))) H1 R)
    (he : ∀ L i acc H1, H L = none → i < n → Pv L i acc H1 → H1 L = some (.lst acc) → acc.length = i → ∀ R : VK, (∀ y H4, H4 L = some (.lst acc) → Pv L (i + 1) (acc ++ [y]) (upd H4 L (.lst (acc ++ [y]))) → R y H4) → te ((wipe σ vs).set j (some (.int (lo + (i : Nat))))) H1 R)
    (hq : ∀ L acc H1, H L = none → Pv L n acc H1 → H1 L = some (.lst acc) → acc.length = n → Q (.ref L) H1) : qLc (Itr lo n) (gName j) tt te vs σ H Q := by
  intro L hL
  refine lc_it (walk_range (lo := lo) (n := n)) (fun i H1 => ∃ acc, Pv L i acc H1 ∧ H1 L = some (.lst acc) ∧ acc.length = i) ⟨[], h0 L hL, upd_same, rfl⟩ (fun _ _ _ _ => trivial) (fun i x H1 H2 hi hp hy => ?_) (fun H1 hp => ?_)
  · obtain ⟨rfl, rfl⟩ := hy
    obtain ⟨acc, p1, p2, p3⟩ := hp
    refine ⟨hw _, ht i _ _ ?_⟩
    rw [if_pos rfl]
    refine he L i acc _ hL hi p1 p2 p3 _ fun y H4 h1 h2 => ?_
    exact ⟨acc, h1, by rw [sizeLine_eq]; omega, acc ++ [y], h2, upd_same, by rw [List.length_append, p3]; rfl⟩
  · obtain ⟨acc, p1, p2, p3⟩ := hp
    exact hq L acc H1 hL p1 p2 p3
theorem x_seqK {a b : TS} {D : Ends} {σ : L2.St} {H : Hp} (Inv : L2.St → Hp → Prop) (hb : ∀ σ H, Inv σ H → b D σ H) (ha : ∀ b' : TS, (∀ σ H, Inv σ H → b' D σ H) → tSeq a b' D σ H) : tSeq a b D σ H := ha b hb
section
variable {K : PySem.W.Frag} {σ : L2.St} {H : Hp} {D : Ends} {tb : TS}
/-- a walk over the places -/
theorem for_P1 {q : Addr} {P : List (Nat × Nat)} {j : Nat} (hp : PairsAt H q P) (Pv : List (Nat × Nat) → List (Nat × Nat) → L2.St → Hp → Prop) (h0 : Pv [] P σ H) (hex : ∀ u r σ H', Pv u r σ H' → Ex H H')
    (hs : ∀ u s r σ H1 T, P = u ++ s :: r → Pv u (s :: r) σ H1 → H1 T = some (.tup [.int (s.1 : Nat), .int (s.2 : Nat)]) → tb { D with nx := Pv (u ++ [s]) r, ct := Pv (u ++ [s]) r, bk := D.nx } (σ.set j (some (.ref T))) H1)
    (hd : ∀ σ H1, Pv P [] σ H1 → D.nx σ H1) : qFor (Itl K q) (gName j) tb D σ H := by
  obtain ⟨as, h1, h2, h3⟩ := hp
  have w := walk_list (K := K) (a := q) (xs := as.map V.ref)
  rw [List.length_map] at w
  refine for_it w (fun i σ H' => Pv (P.take i) (P.drop i) σ H') h0 (fun i σ H' _ h => .inl (.inl (hex _ _ _ _ h _ _ h2))) (fun i x σ H1 H2 hi hp hy => ?_) (fun σ H1 hp => ?_)
  · obtain ⟨rfl, hx⟩ := hy
    rw [List.getElem?_map, List.getElem?_eq_getElem hi] at hx
    obtain rfl := (Option.some.inj hx).symm
    have hP : P[i]? = some P[i] := List.getElem?_eq_getElem (by omega)
    have ht := hex _ _ _ _ hp _ _ (h3 i _ _ (List.getElem?_eq_getElem hi) hP)
    rw [take_drop_cons hP] at hp
    have z := hs (P.take i) P[i] (P.drop (i + 1)) σ H2 as[i] (pre_of hP) hp ht
    have e2 : P.take (i + 1) = P.take i ++ [P[i]] := by
      rw [List.take_add_one, hP]
      rfl
    rw [← e2] at z
    exact z
  · rw [h1, List.take_length, List.drop_length] at hp
    exact hd σ H1 hp
end
/-! in a dict -/
def qDIn (Q : VK) (y : V) : VK := fun x H2 => ∃ a o, x = .ref a ∧ DGet H2 a y o ∧ Q (.bl o.isSome) H2
theorem x_din {σ : L2.St} {H : Hp} {Q : VK} {ty td : TE} (h : ty σ H fun y H1 => td σ H1 (qDIn Q y)) : tDIn ty td σ H Q := h
theorem x_qDIn {Q : VK} {H : Hp} {a : Addr} {kvs : List (Key × V)} {F : List (List Nat)} {l : List Nat} (hd : H a = some (.dK kvs)) (hK : KeysAre kvs F) (h : Q (.bl (decide (l ∈ F))) H) : qDIn Q (S l) (.ref a) H := by
  refine ⟨a, _, rfl, DGet.k (k := .inr (st l)) hd, ?_⟩
  have e : (valV kvs (.inr (st l))).isSome = decide (l ∈ F) := by
    rw [← valV_any]
    have m : (Sum.inr (st l) : Key) ∈ kvs.map (·.1) ↔ l ∈ F := by
      rw [hK, List.mem_map]
      exact ⟨fun ⟨x, h1, h2⟩ => by rw [← st_inj (Sum.inr.inj h2)]; exact h1, fun h1 => ⟨l, h1, rfl⟩⟩
    rw [Bool.eq_iff_iff, List.any_eq_true, decide_eq_true_iff, ← m, List.mem_map]
    exact ⟨fun ⟨x, h1, h2⟩ => ⟨x, h1, of_decide_eq_true h2⟩, fun ⟨x, h1, h2⟩ => ⟨x, h1, decide_eq_true h2⟩⟩
  rw [e]
  exact h
end TY

/-! sorted(xs) of any length: items that read as data (texts, tuples), the one result -/
namespace TY
open PySem PySem.W PyProof.Rows PySem.Spec L2

theorem each_of {α β : Type} {R : α → β → Prop} : ∀ {as : List α} {bs : List β}, as.length = bs.length → (∀ p ∈ as.zip bs, R p.1 p.2) → EachIs R as bs
  | [], [], _, _ => .nil
  | [], b :: bs, h, _ => (by simp at h)
  | a :: as, [], h, _ => (by simp at h)
  | a :: as, b :: bs, h, f => .cons (f (a, b) List.mem_cons_self) (each_of (by simpa using h) fun p hp => f p (List.mem_cons_of_mem _ hp))
theorem vals_ofE {β : Type} {ev : β → V} : ∀ {out : List Value} {zs : List β}, EachIs (fun u z => RelV (ev z) u) out zs → Vals (zs.map ev) out
  | [], [], _ => .nil
  | [], _ :: _, h => (by cases h)
  | _ :: _, [], h => (by cases h)
  | u :: out, z :: zs, h => by
    cases h with
    | cons h1 h2 => exact .cons h1 (vals_ofE h2)
theorem each_ofV {β : Type} {ev : β → V} : ∀ {out : List Value} {zs : List β}, Vals (zs.map ev) out → EachIs (fun u z => RelV (ev z) u) out zs
  | [], [], _ => .nil
  | [], _ :: _, h => (by cases h)
  | _ :: _, [], h => (by cases h)
  | u :: out, z :: zs, h => by
    cases h with
    | cons h1 h2 => exact .cons h1 (each_ofV h2)
def rSortedD (K : PySem.W.Frag) : List V → Hp → VK → Prop := fun vs H Q => ∃ (a : Addr) (β : Type) (zs : List β) (ev : β → V) (ed : β → PyData), vs = [.ref a] ∧ SqL K H a (zs.map ev) ∧ (∀ z ∈ zs, Dp K H (ev z) (ed z)) ∧ AllAlike (zs.map ed) ∧ Sortable (zs.map ed) ∧
  (∀ z ∈ zs, (ed z).depth ≤ 5) ∧ zs.length ≤ 1000000 ∧ ∀ p, H p = none → Q (.ref p) (upd H p (.lst ((zs.mergeSort (dataLe false ed)).map ev)))
theorem cr_sortD {X : Cx} (hu : X.A.units + 64 < cLine) : CallR X (.builtin "sorted") (rSortedD X.K) := by
  (intro pins s σ H vs us Q I r h)
  obtain ⟨a, β, zs, ev, ed, rfl, hs, hd, hal, hso, hdp, hz, q⟩ := h
  (obtain ⟨its, rv, hl, _⟩ := I.list hs)
  rw [Vals.ref1 r]
  have e := each_ofV rv
  have hlen := e.length
  have er : EachIs (fun u z => ∃ as, Reads s.heap u (ed z) as) its zs := each_of hlen fun p hp => Dp.reads I _ _ _ (hd _ (List.of_mem_zip hp).2) (e.zip _ hp)
  refine sorted_data (s := s) hl.isList e er hal hso (by rw [sizeLine_eq]; omega) (fun z hzm => by have := hdp z hzm; omega) fun out h1 h2 => ?_
  (obtain ⟨ep, he'⟩ := PyProof.Rows.sortedAll_at s.heap its out.toArray)
  have hlen2 : ((zs.mergeSort (dataLe false ed)).map ev).length ≤ sizeLine := by rw [List.length_map, List.length_mergeSort, sizeLine_eq]; omega
  exact ⟨.ref _, upd H (s.heap.objs.size + 1) (.lst ((zs.mergeSort (dataLe false ed)).map ev)), I.laid (t' := s.toks) (fun _ _ => PyProof.Rows.sortedAll_old) (Nat.le_succ _) ⟨hlen2, out, ep, vals_ofE h2, he'⟩, rfl, q _ (I.hok.fresh (Nat.le_succ _))⟩
section
variable {K : PySem.W.Frag} {H : Hp} {Q : VK}
def leT (a b : List Nat) : Bool := decide (a ≤ b)
theorem dataLe_st : dataLe false (fun t : List Nat => PyData.str (st t)) = leT := by
  rw [dataLe_str fun t : List Nat => st t]
  funext a b
  unfold leT
  rw [st_cps, st_cps]
/-- sorted(texts) -/
theorem x_sortL {a : Addr} {ts : List (List Nat)} (hp : SqL K H a (ts.map S)) (hz : ts.length ≤ 1000000) (h : ∀ p H', H p = none → Ex H H' → H' p = some (.lst ((ts.mergeSort leT).map S)) → Q (.ref p) H') : rSortedD K [.ref a] H Q :=
  ⟨a, List Nat, ts, S, fun t => .str (st t), rfl, hp, fun t _ => .str _, AllAlike.of fun _ _ => by simp [alike], Sortable.others fun _ => ⟨(fun e => nomatch e), fun _ e => nomatch e⟩, fun t _ => by simp [PyData.depth], hz,
    fun p hn => h p _ hn ((Ex.refl H).new hn) (by rw [upd_same, dataLe_st])⟩
/-- sorted(list of (number, text)) -/
theorem x_sortP {a : Addr} {l : List (Addr × List Nat)} {n : List Nat → Int} (hp : SqL K H a (l.map fun z => V.ref z.1)) (hz : l.length ≤ 1000000) (ht : ∀ z ∈ l, H z.1 = some (.tup [.int (n z.2), S z.2]))
    (h : ∀ p H', H p = none → Ex H H' → H' p = some (.lst ((l.mergeSort (dataLe false fun z : Addr × List Nat => kD n z.2)).map fun z => V.ref z.1)) → Q (.ref p) H') : rSortedD K [.ref a] H Q :=
  ⟨a, Addr × List Nat, l, fun z => .ref z.1, fun z => kD n z.2, rfl, hp, fun z hm => .tup (.inl (.inl (ht z hm))) (.cons (.int _) (.cons (.str _) .nil)), AllAlike.of fun _ _ => by simp [kD, alike, alikeAll], Sortable.tuples fun _ => ⟨_, _, rfl⟩, fun z _ => kD_depth n z.2, hz,
    fun p hn => h p _ hn ((Ex.refl H).new hn) upd_same⟩
end
end TY

/-! text * number from 0 on -/
namespace TY
open PySem PyProof.Rows PySem.Spec L2

def qRepA : R2 := fun x y H Q => ∃ (l : List Nat) (n : Nat), x = S l ∧ y = .int (n : Nat) ∧ n ≤ 100 ∧ l.length ≤ 100 ∧ Q (S (List.replicate n l).flatten) H
theorem op_rep_strA {X : Cx} : OpR X (binaryOp .Mult) qRepA := by
  (intro pins s σ H x y v u Q I rx ry h)
  obtain ⟨l, n, rfl, rfl, n1, z2, q⟩ := h
  obtain ⟨t, rfl⟩ := rx
  obtain ⟨t', rfl⟩ := ry
  have hll : (st l).length ≤ 100 := by rw [st_len]; exact z2
  have hbig : (st l).length * n ≤ 10000 := Nat.mul_le_mul hll n1
  refine PySem.P.mul_str ?_ (fun h1 h2 => ?_) (fun _ _ => ?_) ?_
  · have a1 : decide ((n : Int) < -(2 ^ 63 : Int)) = false := decide_eq_false (by omega)
    have a2 : decide ((n : Int) ≥ 2 ^ 63) = false := decide_eq_false (by omega)
    rw [a1, a2] <;> rfl
  · have e : (2 ^ 63 - 1 : Int) / (n : Int) ≥ 100 := by
      refine Int.le_ediv_of_mul_le (by omega) ?_
      omega
    omega
  · unfold Builtin.Str.tooLong
    simp only [decide_eq_false_iff_not, sizeLine_eq, Int.toNat_natCast]
    omega
  · have e0 : ((List.replicate n l).flatten) = (strRep n (st l)).cps.toList := by rw [strRep_st, st_cps]
    have lenF : ((List.replicate n l).flatten).length ≤ 10000 := by
      rw [List.length_flatten, List.map_replicate, List.sum_replicate_nat]
      exact Nat.mul_le_mul n1 z2
    by_cases h1 : (n : Int) < 1
    · rw [if_pos h1]
      have hn : n = 0 := by omega
      subst hn
      exact ⟨by decide, ⟨S [], H, I.tok _, ⟨_, rfl⟩, q⟩⟩
    · rw [if_neg h1]
      cases hm : ((n : Int) == 1 || (st l).length == 0) with
      | true =>
        rw [if_pos rfl]
        have e : (List.replicate n l).flatten = l := by
          rcases Bool.or_eq_true _ _ |>.mp hm with z | z
          · have : n = 1 := by have := eq_of_beq z; omega
            subst this
            simp
          · have : l = [] := by
              have := eq_of_beq z
              rw [st_len] at this
              exact List.length_eq_zero_iff.mp this
            subst this
            simp
        rw [e] at q
        exact ⟨S l, H, I, ⟨t, rfl⟩, q⟩
      | false =>
        rw [if_neg (by decide)]
        refine ⟨?_, ⟨S (List.replicate n l).flatten, H, I.tok _, ⟨s.toks, ?_⟩, q⟩⟩
        · show (strRep n (st l)).length ≤ sizeLine
          rw [strRep_st, st_len, sizeLine_eq]
          omega
        · show Value.str (strRep n (st l)) _ = Value.str _ _
          rw [strRep_st]
theorem l_repA {σ : L2.St} {H : Hp} {Q : VK} {ta tb : TE} (h : ta σ H fun x H1 => tb σ H1 fun y H2 => qRepA x y H2 Q) : tOp qRepA ta tb σ H Q := h
theorem x_repA {H : Hp} {Q : VK} {l : List Nat} {n : Nat} (h1 : n ≤ 100) (h2 : l.length ≤ 100) (h : Q (S (List.replicate n l).flatten) H) : qRepA (S l) (.int (n : Nat)) H Q := ⟨l, n, rfl, rfl, h1, h2, h⟩
/-- an or of two tests that change nothing -/
theorem x_orW {p q : Prop} [Decidable p] [Decidable q] {σ : L2.St} {H : Hp} {tt2 : TT} {R : Bool → Hp → Prop} (h2 : ∀ R' : Bool → Hp → Prop, R' (decide q) H → tt2 σ H R') (hR : ∀ b : Bool, (b = true ↔ p ∨ q) → R b H) : if decide p = true then R true H else tt2 σ H R := by
  by_cases h : p
  · rw [if_pos (decide_eq_true h)]
    exact hR true ⟨fun _ => .inl h, fun _ => rfl⟩
  · rw [if_neg (by simpa using h)]
    exact h2 R (hR _ ⟨fun z => .inr (of_decide_eq_true z), fun z => decide_eq_true (z.resolve_left h)⟩)
end TY

/-! dicts whose keys are tuples, nested too; x in o where o has an own __contains__ -/
namespace TY
open PySem PySem.W PySem.Calls PySem.Spec PyProof.Rows L2

abbrev NK := NestedKey
mutual
/-- the value is the key, as the heap tells it -/
inductive NkV (H : Hp) : NK → V → Prop
  | num (i : Int) : NkV H (.num i) (.int i)
  | text (z : Str) : NkV H (.text z) (.str z)
  | non : NkV H .none .non
  | tup {a : Addr} {ks : List NK} {vs : List V} : H a = some (.tup vs) → NkAll H ks vs → NkV H (.tup ks) (.ref a)
inductive NkAll (H : Hp) : List NK → List V → Prop
  | nil : NkAll H [] []
  | cons {k : NK} {v : V} {ks : List NK} {vs : List V} : NkV H k v → NkAll H ks vs → NkAll H (k :: ks) (v :: vs)
end
mutual
theorem NkV.mono {H H' : Hp} (e : ∀ a vs, H a = some (.tup vs) → H' a = some (.tup vs)) : ∀ (k : NK) (v : V), NkV H k v → NkV H' k v
  | .none, _, h => by cases h; exact .non
  | .num i, _, h => by cases h; exact .num _
  | .text z, _, h => by cases h; exact .text _
  | .tup ks, _, h => by
    cases h with
    | tup h1 h2 => exact .tup (e _ _ h1) (NkAll.mono e ks _ h2)
theorem NkAll.mono {H H' : Hp} (e : ∀ a vs, H a = some (.tup vs) → H' a = some (.tup vs)) : ∀ (ks : List NK) (vs : List V), NkAll H ks vs → NkAll H' ks vs
  | [], _, h => by cases h; exact .nil
  | k :: ks, _, h => by
    cases h with
    | cons h1 h2 => exact .cons (NkV.mono e k _ h1) (NkAll.mono e ks _ h2)
end
theorem NkV.ex {H H' : Hp} {k : NK} {v : V} (h : NkV H k v) (e : Ex H H') : NkV H' k v := NkV.mono (fun a vs q => e a _ q) k v h
section
variable {P : Program} {w : World} {H : Hp} {h : Heap}
mutual
theorem nk_is (ok : HOk P w H h) : ∀ (k : NK) (v : V) (u : Value), NkV H k v → RelV v u → NestedIs h k u
  | .none, _, _, x, r => by
    cases x
    cases (show _ = Value.none from r)
    exact .none
  | .num i, _, _, x, r => by
    cases x
    obtain ⟨t, rfl⟩ := r
    exact .int _ _
  | .text z, _, _, x, r => by
    cases x
    obtain ⟨t, rfl⟩ := r
    exact .text _ _
  | .tup ks, _, _, x, r => by
    cases x with
    | tup h1 h2 =>
      cases (show _ = Value.ref _ from r)
      obtain ⟨_, its, rv, o, g1, g2, n, g3⟩ := (show ObjOk P w H h _ (.tup _) from ok _ _ h1)
      exact .tup g1 g2 g3 (by simpa using nk_all ok ks _ its h2 rv)
theorem nk_all (ok : HOk P w H h) : ∀ (ks : List NK) (vs : List V) (us : List Value), NkAll H ks vs → Vals vs us → NestedAll h ks us
  | [], _, _, x, r => by
    cases x
    cases r
    exact .nil
  | k :: ks, _, _, x, r => by
    cases x with
    | cons h1 h2 =>
      cases r with
      | cons r1 r2 => exact .cons (nk_is ok k _ _ h1 r1) (nk_all ok ks _ _ h2 r2)
end
end
/-! ### the dict -/
abbrev NX (P : Program) (w : World) : List (NK × Addr × V) → List (NK × Addr × Value) → Prop := Paired fun p q => p.1 = q.1 ∧ p.2.1 = q.2.1 ∧ RelV p.2.2 q.2.2
def dnF (P : Program) (w : World) (d : Addr) (xs : List (NK × Addr × V)) (h : Heap) : Prop := xs.length ≤ sizeLine ∧ (d == sysModules) = false ∧ ∃ vs, NX P w xs vs ∧ ∃ o es ep, h.get? d = some o ∧ o.ExactDict ∧ o.data = .dict es ep ∧ es.toList = vs.map (entryOfKey (nestedKind P w)) ∧ (vs.map (·.1)).Nodup
def dnO (P : Program) (w : World) (d : Addr) (xs : List (NK × Addr × V)) : HO := .ext (dnF P w d xs)
def NDict (P : Program) (w : World) (H : Hp) (d : Addr) (kvs : List (NK × V)) : Prop := ∃ xs : List (NK × Addr × V), xs.map (fun x => (x.1, x.2.2)) = kvs ∧ H d = some (dnO P w d xs) ∧ ∀ x ∈ xs, NkV H x.1 (.ref x.2.1) ∧ x.1.depth ≤ 8
theorem NDict.mono {P : Program} {w : World} {H H' : Hp} {d : Addr} {kvs : List (NK × V)} (n : NDict P w H d kvs) (e : ∀ a o, H a = some o → (a = d ∨ ∃ vs, o = .tup vs) → H' a = some o) : NDict P w H' d kvs := by
  obtain ⟨xs, h1, h2, h3⟩ := n
  exact ⟨xs, h1, e _ _ h2 (.inl rfl), fun x hx => ⟨NkV.mono (fun a vs q => e a _ q (.inr ⟨vs, rfl⟩)) _ _ (h3 x hx).1, (h3 x hx).2⟩⟩
theorem NDict.ex {P : Program} {w : World} {H H' : Hp} {d : Addr} {kvs : List (NK × V)} (n : NDict P w H d kvs) (e : Ex H H') : NDict P w H' d kvs := n.mono fun a o h _ => e a o h
theorem dn_raw {P : Program} {w : World} {H : Hp} {h : Heap} {d : Addr} {xs : List (NK × Addr × V)} (ok : HOk P w H h) (e : H d = some (dnO P w d xs)) (hk : ∀ x ∈ xs, NkV H x.1 (.ref x.2.1) ∧ x.1.depth ≤ 8) :
    xs.length ≤ sizeLine ∧ (d == sysModules) = false ∧ ∃ vs, NX P w xs vs ∧ h.DictOfH (nestedKind P w) d vs := by
  obtain ⟨⟨z, y, vs, r, o, es, ep, g1, g2, g3, g4, g5⟩, _, _⟩ := (show ObjOk P w H h d (dnO P w d xs) from ok _ _ e)
  refine ⟨z, y, vs, r, o, es, ep, g1, g2, g3, g4, fun x hx => ?_, g5⟩
  have all : ∀ {l : List (NK × Addr × V)} {m : List (NK × Addr × Value)}, NX P w l m → (∀ x ∈ l, NkV H x.1 (.ref x.2.1) ∧ x.1.depth ≤ 8) → ∀ x ∈ m, (nestedKind P w).is h x.1 x.2.1 := by
    intro l m q
    induction q with
    | nil => intro _ x hx; exact nomatch hx
    | @cons p q ps qs hq t ih =>
      intro hl x hx
      (rcases List.mem_cons.mp hx with e | hx)
      · subst e
        rw [← hq.1, ← hq.2.1]
        obtain ⟨a1, a2⟩ := hl p List.mem_cons_self
        exact ⟨nk_is ok _ _ _ a1 rfl, a2⟩
      · exact ih (fun x hx => hl x (List.mem_cons_of_mem _ hx)) x hx
  exact all r hk x hx
theorem NX.kv {P : Program} {w : World} {xs : List (NK × Addr × V)} {vs : List (NK × Addr × Value)} (r : NX P w xs vs) : KV (xs.map fun x => (x.1, x.2.2)) (pairsH vs) := by
  unfold KV pairsH
  induction r with
  | nil => exact .nil
  | cons h t ih => exact .cons ⟨h.1, h.2.2⟩ ih
theorem nd_of {P : Program} {w : World} {H : Hp} {h : Heap} {d : Addr} {kvs : List (NK × V)} (ok : HOk P w H h) (n : NDict P w H d kvs) : kvs.length ≤ sizeLine ∧ (d == sysModules) = false ∧ ∃ vs, KV kvs vs ∧ h.DictKeyed (nestedKind P w) d vs := by
  obtain ⟨xs, rfl, h2, h3⟩ := n
  obtain ⟨z, y, vs, r, dd⟩ := dn_raw ok h2 h3
  exact ⟨by rw [List.length_map]; exact z, y, _, r.kv, vs, dd, rfl⟩
theorem dnF_ok {P : Program} {w : World} {H : Hp} {h : Heap} {d : Addr} {xs : List (NK × Addr × V)} (f : dnF P w d xs h) : ObjOk P w H h d (dnO P w d xs) := by
  refine ⟨f, ?_, ?_⟩
  · obtain ⟨_, _, _, _, o, _, _, g, _⟩ := f
    exact ⟨o, g⟩
  · intro h1 h2 ⟨z, y, vs, r, o, es, ep, g1, g⟩ k
    exact ⟨z, y, vs, r, o, es, ep, k _ g1, g⟩
/-- behind a store -/
def putN (xs : List (NK × Addr × V)) (k : NK) (b : Addr) (v : V) : List (NK × Addr × V) := if (xs.any fun x => decide (x.1 = k)) = true then xs.map (fun x => if x.1 = k then (x.1, x.2.1, v) else x) else xs ++ [(k, b, v)]
theorem NX.any {P : Program} {w : World} {xs : List (NK × Addr × V)} {vs : List (NK × Addr × Value)} (r : NX P w xs vs) (k : NK) : (xs.any fun x => decide (x.1 = k)) = (atKey vs k).isSome := by
  induction r with
  | nil => rfl
  | @cons p q ps qs h t ih =>
    rw [List.any_cons, ih]
    unfold atKey
    by_cases e : p.1 = k
    · rw [decide_eq_true e, List.find?_cons, decide_eq_true (h.1.symm.trans e)]
      rfl
    · rw [decide_eq_false e, List.find?_cons, decide_eq_false (fun z => e (h.1.trans z))]
      rfl
theorem NX.put {P : Program} {w : World} {xs : List (NK × Addr × V)} {vs : List (NK × Addr × Value)} (r : NX P w xs vs) (k : NK) (b : Addr) {v : V} {u : Value} (rv : RelV v u) : NX P w (putN xs k b v) (storedH vs k b u) := by
  unfold putN storedH
  rw [r.any k]
  by_cases q : (atKey vs k).isSome = true
  · rw [if_pos q, if_pos q]
    clear q
    induction r with
    | nil => exact .nil
    | @cons p q ps qs h t ih =>
      (rw [List.map_cons, List.map_cons])
      refine .cons ?_ ih
      unfold putAt
      by_cases e : p.1 = k
      · rw [if_pos e, if_pos (h.1.symm.trans e)]; exact ⟨h.1, h.2.1, rv⟩
      · rw [if_neg e, if_neg (fun z => e (h.1.trans z))]; exact h
  · rw [if_neg q, if_neg q]
    exact Paired.snoc r ⟨rfl, rfl, rv⟩
theorem putN_kvs (xs : List (NK × Addr × V)) (k : NK) (b : Addr) (v : V) : (putN xs k b v).map (fun x => (x.1, x.2.2)) = putK (xs.map fun x => (x.1, x.2.2)) k v := by
  unfold putN putK
  have e : ((xs.map fun x => (x.1, x.2.2)).any fun kv => decide (kv.1 = k)) = xs.any fun x => decide (x.1 = k) := by rw [List.any_map]; rfl
  rw [e]
  split
  · rw [List.map_map, List.map_map]
    (refine List.map_congr_left fun x _ => ?_)
    show (fun x : NK × Addr × V => (x.1, x.2.2)) (if x.1 = k then (x.1, x.2.1, v) else x) = if x.1 = k then (x.1, v) else (x.1, x.2.2)
    split <;> rfl
  · rw [List.map_append]
    rfl
theorem putN_mem {xs : List (NK × Addr × V)} {k : NK} {b : Addr} {v : V} {P : NK → Addr → Prop} (h : ∀ x ∈ xs, P x.1 x.2.1) (hk : P k b) : ∀ x ∈ putN xs k b v, P x.1 x.2.1 := by
  intro x hx
  unfold putN at hx
  split at hx
  · obtain ⟨y, hy, e⟩ := List.mem_map.mp hx
    have := h y hy
    by_cases q : y.1 = k
    · rw [if_pos q] at e
      rw [← e]
      exact this
    · rw [if_neg q] at e
      rw [← e]
      exact this
  · rcases List.mem_append.mp hx with g | g
    · exact h x g
    · rw [List.mem_singleton.mp g]
      exact hk
theorem putN_len (xs : List (NK × Addr × V)) (k : NK) (b : Addr) (v : V) : (putN xs k b v).length ≤ xs.length + 1 := by
  unfold putN
  split
  · rw [List.length_map]; omega
  · rw [List.length_append]; exact Nat.le_refl _
section
variable {X : Cx} {pins : List (Addr × Obj)} {σ : L2.St} {H : Hp} {s : Shared} {d b : Addr} {kvs : List (NK × V)} {k : NK} {v : V} {r : Value} {A : Around} {E : Value → Shared → Prop}
theorem nk_room (hu : X.A.units + 64 < cLine) : (nestedKind X.prog X.w).room X.A.in1 := by
  show X.A.units + 1 + 8 < cLine
  omega
theorem nd_getItem {Q : Value → Shared → Prop} (hu : X.A.units + 64 < cLine) (I : L2.Inv X pins σ H s) (n : NDict X.prog X.w H d kvs) (hk : NkV H k (.ref b)) (hd : k.depth ≤ 8) (hv : valV kvs k = some v) (h : ∀ w' s', L2.Inv X pins σ H s' → RelV v w' → Q w' s') :
    wpAny (model X.prog X.w) X.A (getItem (.ref d) (.ref b)) Q E s := by
  obtain ⟨z, y, vs, kv, dk⟩ := nd_of I.hok n
  obtain ⟨w', hw, rw'⟩ := RelO.some_of (v := v) (o := valueAt vs k) (by rw [← hv]; exact kv.val k)
  exact getItem_keyed (nk_room hu) ⟨nk_is I.hok _ _ _ hk rfl, hd⟩ dk hw (h w' _ (I.tok _) rw')
theorem nd_in {Q : Value → Shared → Prop} (hu : X.A.units + 64 < cLine) (I : L2.Inv X pins σ H s) (n : NDict X.prog X.w H d kvs) (hk : NkV H k (.ref b)) (hd : k.depth ≤ 8) (h : ∀ s', L2.Inv X pins σ H s' → Q (.bool (valV kvs k).isSome) s') :
    wpAny (model X.prog X.w) X.A (compareOp .In (.ref b) (.ref d)) Q E s := by
  obtain ⟨z, y, vs, kv, dk⟩ := nd_of I.hok n
  refine in_keyed (nk_room hu) ⟨nk_is I.hok _ _ _ hk rfl, hd⟩ y dk ?_
  rw [← (kv.val k).isSome_eq]
  exact h _ (I.tok _)
theorem nd_notIn {Q : Value → Shared → Prop} (hu : X.A.units + 64 < cLine) (I : L2.Inv X pins σ H s) (n : NDict X.prog X.w H d kvs) (hk : NkV H k (.ref b)) (hd : k.depth ≤ 8) (h : ∀ s', L2.Inv X pins σ H s' → Q (.bool (!(valV kvs k).isSome)) s') :
    wpAny (model X.prog X.w) X.A (compareOp .NotIn (.ref b) (.ref d)) Q E s := by
  obtain ⟨z, y, vs, kv, dk⟩ := nd_of I.hok n
  refine notIn_keyed (nk_room hu) ⟨nk_is I.hok _ _ _ hk rfl, hd⟩ y dk ?_
  rw [← (kv.val k).isSome_eq]
  exact h _ (I.tok _)
theorem nd_get2 {x : V} {u : Value} {Q : Value → Shared → Prop} (hu : X.A.units + 64 < cLine) (I : L2.Inv X pins σ H s) (n : NDict X.prog X.w H d kvs) (hk : NkV H k (.ref b)) (hd : k.depth ≤ 8) (ru : RelV x u) (h : ∀ w' s', L2.Inv X pins σ H s' → RelV ((valV kvs k).getD x) w' → Q w' s') :
    wpAny (model X.prog X.w) X.A (call (.builtin "dict.get") [.ref d, .ref b, u]) Q E s := by
  obtain ⟨z, y, vs, kv, dk⟩ := nd_of I.hok n
  exact getOr_keyed (nk_room hu) ⟨nk_is I.hok _ _ _ hk rfl, hd⟩ y dk (h _ _ (I.tok _) ((kv.val k).getD ru))
theorem nd_setItem {Q : Unit → Shared → Prop} (hu : X.A.units + 64 < cLine) (I : L2.Inv X pins σ H s) (n : NDict X.prog X.w H d kvs) (hk : NkV H k (.ref b)) (hd : k.depth ≤ 8) (hz : kvs.length < sizeLine) (rv : RelV v r)
    (h : ∀ H' s', L2.Inv X pins σ H' s' → NDict X.prog X.w H' d (putK kvs k v) → (∀ a, a ≠ d → H' a = H a) → Q () s') :
    wpAny (model X.prog X.w) X.A (setItem (.ref d) (.ref b) r) Q E s := by
  obtain ⟨xs, rfl, h2, h3⟩ := n
  obtain ⟨z, y, vs, nx, dd⟩ := dn_raw I.hok h2 h3
  have hz' : vs.length ≤ sizeLine := by rw [← Paired.length nx]; exact z
  rw [List.length_map] at hz
  refine wpAny_setItem_heap (hsz := hz') (nk_room hu) ⟨nk_is I.hok _ _ _ hk rfl, hd⟩ dd fun h' dd' hs => ?_
  obtain ⟨o, es, ep, g1, g2, g3, g4, _, g5⟩ := dd'
  have hl := putN_len xs k b v
  have e' : ∀ a ys, H a = some (.tup ys) → upd H d (dnO X.prog X.w d (putN xs k b v)) a = some (.tup ys) := fun a ys q => by
    rw [upd_ne (fun z => by rw [z, h2] at q; cases q)]
    exact q
  refine h _ _ (d_write I (by rw [h2]; exact True.intro) hs ⟨o, g1⟩ (dnF_ok ⟨by omega, y, _, nx.put k b rv, o, es, ep, g1, g2, g3, g4, g5⟩)) ⟨putN xs k b v, putN_kvs _ _ _ _, upd_same, ?_⟩ fun a ha => upd_ne ha
  intro x hx
  have q := putN_mem (P := fun k b => NkV H k (.ref b) ∧ k.depth ≤ 8) h3 ⟨hk, hd⟩ x hx
  exact ⟨NkV.mono e' _ _ q.1, q.2⟩
theorem nd_typeIs (I : L2.Inv X pins σ H s) (n : NDict X.prog X.w H d kvs) : s.TypeIs (.ref d) "dict" ∧ (∀ b, Value.ref d = .ref b → ∃ ob, s.heap.get? b = some ob ∧ ob.dict = none) ∧ (d == sysModules) = false := by
  obtain ⟨z, y, vs, kv, xs, dd, e⟩ := nd_of I.hok n
  refine ⟨dd.typeIs, fun c q => ?_, y⟩
  cases q
  (obtain ⟨ob, _, _, h1, h2, _⟩ := dd)
  exact ⟨ob, h1, h2.2.1⟩
end
/-! ### readings -/
def qNGet (P : Program) (w : World) (Q : VK) (x : V) : VK := fun y H2 => ∃ d b k kvs v, x = .ref d ∧ y = .ref b ∧ NDict P w H2 d kvs ∧ NkV H2 k (.ref b) ∧ k.depth ≤ 8 ∧ valV kvs k = some v ∧ Q v H2
def tNGet (P : Program) (w : World) (td ty : TE) : TE := fun σ H Q => td σ H fun x H1 => ty σ H1 (qNGet P w Q x)
def qNIn (P : Program) (w : World) (neg : Bool) (Q : VK) (y : V) : VK := fun x H2 => ∃ d b k kvs, x = .ref d ∧ y = .ref b ∧ NDict P w H2 d kvs ∧ NkV H2 k (.ref b) ∧ k.depth ≤ 8 ∧ Q (.bl (if neg = true then !(valV kvs k).isSome else (valV kvs k).isSome)) H2
def tNIn (P : Program) (w : World) (neg : Bool) (ty td : TE) : TE := fun σ H Q => ty σ H fun y H1 => td σ H1 (qNIn P w neg Q y)
def qNPut (P : Program) (w : World) (D : Ends) (σ : L2.St) (v x : V) : VK := fun y H3 => ∃ d b k kvs, x = .ref d ∧ y = .ref b ∧ NDict P w H3 d kvs ∧ NkV H3 k (.ref b) ∧ k.depth ≤ 8 ∧ kvs.length < sizeLine ∧ ∀ H4, NDict P w H4 d (putK kvs k v) → (∀ a, a ≠ d → H4 a = H3 a) → D.nx σ H4
def sNPut (P : Program) (w : World) (td ty tv : TE) : TS := fun D σ H => tv σ H fun v H1 => td σ H1 fun x H2 => ty σ H2 (qNPut P w D σ v x)
def qNGet2 (P : Program) (w : World) (Q : VK) (d : Addr) (y : V) : VK := fun z H3 => ∃ b k kvs, y = .ref b ∧ NDict P w H3 d kvs ∧ NkV H3 k (.ref b) ∧ k.depth ≤ 8 ∧ Q ((valV kvs k).getD z) H3
def tNGet2 (P : Program) (w : World) (td ty tx : TE) : TE := fun σ H Q => td σ H fun x H1 => ∃ d kvs, x = .ref d ∧ NDict P w H1 d kvs ∧ ty σ H1 fun y H2 => tx σ H2 (qNGet2 P w Q d y)
def tNNew (P : Program) (w : World) : TE := fun _ H Q => ∀ p H', H p = none → Ex H H' → NDict P w H' p [] → Q (.ref p) H'
section
variable {X : Cx} {o i e f value : Expr} {pos pos' apos cpos : Pos} {td ty tv tx : TE}
theorem pe_nget (hu : X.A.units + 64 < cLine) (ho : PE X o td) (hi : PE X i ty) (hs : NoSl i) : PE X (.Subscript o i pos) (tNGet X.prog X.w td ty) := by
  (refine ⟨fun pins s σ H Q I h => ?_⟩)
  refine subD_of PySem.F.slot_dict_getitem.lookup hs (thn (ho.run pins s σ H _ I h) fun u s1 ⟨x, H1, I1, rx, q1⟩ => thn (hi.run pins s1 σ H1 _ I1 q1) fun iv s2 ⟨y, H2, I2, ry, d, b, k, kvs, v, ex, ey, n, hk, hd, hv, q2⟩ => ?_)
  subst ex ey
  (obtain rfl : u = Value.ref d := rx)
  obtain rfl : iv = Value.ref b := ry
  exact ⟨(nd_typeIs I2 n).1, nd_getItem hu I2 n hk hd hv fun w' s3 I3 rw' => ⟨v, H2, I3, rw', q2⟩⟩
theorem pc_nin (hu : X.A.units + 64 < cLine) (hi : PE X i ty) (ho : PE X o td) : PC X .In i o (tNIn X.prog X.w false ty td) := by
  (refine ⟨fun pins s σ H Q I h => ?_⟩)
  refine thn (hi.run pins s σ H _ I h) fun iv s1 ⟨y, H1, I1, ry, q1⟩ => thn (ho.run pins s1 σ H1 _ I1 q1) fun u s2 ⟨x, H2, I2, rx, d, b, k, kvs, ex, ey, n, hk, hd, q2⟩ => ?_
  subst ex ey
  (obtain rfl : u = Value.ref d := rx)
  obtain rfl : iv = Value.ref b := ry
  exact nd_in hu I2 n hk hd fun s3 I3 => ⟨.bl (valV kvs k).isSome, H2, I3, rfl, q2⟩
theorem pc_nnotin (hu : X.A.units + 64 < cLine) (hi : PE X i ty) (ho : PE X o td) : PC X .NotIn i o (tNIn X.prog X.w true ty td) := by
  (refine ⟨fun pins s σ H Q I h => ?_⟩)
  refine thn (hi.run pins s σ H _ I h) fun iv s1 ⟨y, H1, I1, ry, q1⟩ => thn (ho.run pins s1 σ H1 _ I1 q1) fun u s2 ⟨x, H2, I2, rx, d, b, k, kvs, ex, ey, n, hk, hd, q2⟩ => ?_
  subst ex ey
  (obtain rfl : u = Value.ref d := rx)
  obtain rfl : iv = Value.ref b := ry
  exact nd_notIn hu I2 n hk hd fun s3 I3 => ⟨.bl (!(valV kvs k).isSome), H2, I3, rfl, q2⟩
theorem ps_nput (hu : X.A.units + 64 < cLine) (ho : PE X o td) (hi : PE X i ty) (hv : PE X value tv) (hs : swapsWith value (some (.Subscript o i pos')) pos.line X.env = pure false) :
    PS X (.Assign [.Subscript o i pos'] value pos) (sNPut X.prog X.w td ty tv) := by
  (refine ⟨fun pins s σ H D I h => ?_⟩)
  refine wpAny_Assign_Subscript (thn (hv.run pins s σ H _ I h) fun r s1 ⟨v, H1, I1, rv, q1⟩ => thn (ho.run pins s1 σ H1 _ I1 q1) fun u s2 ⟨x, H2, I2, rx, q2⟩ => thn (hi.run pins s2 σ H2 _ I2 q2) fun iv s3 ⟨y, H3, I3, ry, d, b, k, kvs, ex, ey, n, hk, hd, hz, q3⟩ => ?_) hs
  subst ex ey
  (obtain rfl : u = Value.ref d := rx)
  obtain rfl : iv = Value.ref b := ry
  exact nd_setItem hu I3 n hk hd hz rv fun H4 s4 I4 n4 k4 => ⟨σ, H4, I4, q3 H4 n4 k4⟩
theorem pe_nget2 (hu : X.A.units + 64 < cLine) (ho : PE X o td) (he : PE X e ty) (hf : PE X f tx) (m : M2 X o "get" apos e f cpos) : PE X (.Call (.Attribute o "get" apos) [e, f] [] cpos) (tNGet2 X.prog X.w td ty tx) := by
  (refine ⟨fun pins s σ H Q I h => ?_⟩)
  refine wpAny_Call_method m.base m.few m.line PySem.F.plainAttrs_dict PySem.F.slot_dict_get PySem.F.type_dict_get (thn (ho.run pins s σ H _ I h) fun u s1 ⟨x, H1, I1, rx, d, kvs, ex, n, q1⟩ => ?_)
  subst ex
  (obtain rfl : u = Value.ref d := rx)
  obtain ⟨t1, t2, _⟩ := nd_typeIs I1 n
  refine ⟨t1, t2, ?_⟩
  rw [m.trees]
  refine Calls.callWith_builtin rfl (Calls.evalArgs_plain (Calls.spliced_cons (thn (he.run pins s1 σ H1 _ I1 q1) fun iw s2 ⟨y, H2, I2, ry, q2⟩ =>
    Calls.spliced_cons (thn (hf.run pins s2 σ H2 _ I2 q2) fun fv s3 ⟨z, H3, I3, rz, b, k, kvs', ey, n', hk, hd, q3⟩ => Calls.spliced_nil ?_))))
  subst ey
  obtain rfl : iw = Value.ref b := ry
  exact nd_get2 hu I3 n' hk hd rz fun w' s4 I4 rw' => ⟨_, H3, I4, rw', q3⟩
theorem pe_nnew : PE X (.Dict [] [] pos) (tNNew X.prog X.w) := ⟨fun pins s σ H Q I h => by
  have hb : sysModules < s.heap.objs.size := I.big
  (have hf : H s.heap.objs.size = none := I.hok.fresh (Nat.le_refl _))
  refine wpAny_Dict_empty ⟨.ref s.heap.objs.size, _, I.laid (a := s.heap.objs.size) (o := dnO X.prog X.w s.heap.objs.size []) (t' := s.toks) (fun _ _ q => Heap.get?_push_of_some _ q) (Nat.le_refl _)
    (dnF_ok ⟨Nat.zero_le _, beq_eq_false_iff_ne.mpr (Ne.symm (Nat.ne_of_lt hb)), [], .nil, _, #[], 0, Heap.get?_push_size _ rfl, ⟨rfl, rfl, rfl⟩, rfl, rfl, List.nodup_nil⟩), rfl, h _ _ hf ((Ex.refl H).new hf) ⟨[], rfl, upd_same, fun _ hx => nomatch hx⟩⟩⟩
end
/-! ### x in o, by an own __contains__ -/
structure InOf (X : Cx) (CX : CXT) (k : Nat) (C : Addr) (sp : Sp) : Prop where
  ex : ∃ (f : Addr) (fd : FuncData) (ps : List PySem.Str) (j : Nat), j ≤ k ∧ PySem.W.findIn X.K (.ref C) "__contains__" = some (some (.ref f)) ∧ PySem.W.isFn X.K (.ref f) = true ∧ FnOk X.prog X.w X.K X.mg X.base CX j f fd ps sp ∧ Binds X.K fd ps []
def qInO (X : Cx) (CX : CXT) (k : Nat) (E : L2.St → XK) (σ : L2.St) (Q : VK) (y : V) : VK := fun x H1 => ∃ a C dx fs sp, x = .ref a ∧ H1 a = some (.ins C dx fs) ∧ InOf X CX k C sp ∧ sp [.ref a, y] H1 (fun z H2 => ∃ b, z = .bl b ∧ Q (.bl b) H2) (E σ)
def tInO (X : Cx) (CX : CXT) (k : Nat) (E : L2.St → XK) (ty ta : TE) : TE := fun σ H Q => ty σ H fun y H1 => ta σ H1 (qInO X CX k E σ Q y)
theorem pc_inO {X : Cx} {CX : CXT} {k : Nat} {E : L2.St → XK} {i o : Expr} {ty ta : TE} (hi : PE X i ty) (ho : PE X o ta) (hr : Room k X.A) (hx : ∀ σ, PassesAt CX X σ (E σ)) : PC X .In i o (tInO X CX k E ty ta) := by
  (refine ⟨fun pins s σ H Q I h => ?_⟩)
  refine thn (hi.run pins s σ H _ I h) fun iv s1 ⟨y, H1, I1, ry, q1⟩ => thn (ho.run pins s1 σ H1 _ I1 q1) fun u s2 ⟨x, H2, I2, rx, a, C, dx, fs, sp, ex, ea, io, q2⟩ => ?_
  subst ex
  (obtain rfl : u = Value.ref a := rx)
  obtain ⟨f, fd, ps, j, hj, hs, hf, F, hb⟩ := io.ex
  obtain ⟨mA, J, _⟩ := ins_get I2.hok ea
  obtain ⟨od, J, _⟩ := J.look
  obtain ⟨m, hF⟩ := I2.fr
  refine PySem.W.in_K hF I2.ok.mod.kin J hs hf ?_
  refine thn (run_fnS (us := [.ref a, iv]) (vs := [.ref a, y]) F (hr.mono hj) hb (hx σ) I2 (.cons rfl (.cons ry .nil)) q2) fun z s3 ⟨zv, H3, I3, rz, b, ez, q3⟩ => ?_
  subst ez
  obtain rfl : z = Value.bool b := rz
  exact wpAny_truthy_bool ⟨.bl b, H3, I3, rfl, q3⟩
end TY

/-! loops and comprehensions with any target, a new heap at each item; nested dicts, step by step -/
namespace TY
open PySem PySem.W PyProof.Rows PySem.Spec L2

section
variable {K : PySem.W.Frag} {P : Program} {w : World} {σ : L2.St} {H : Hp} {D : Ends} {Q : VK} {te ta td ty tv tx : TE} {tt : TT} {tb : TS} {g : TG} {vs : List Nat} {v : V}
/-! targets -/
theorem x_gTup {R : L2.St → Hp → Prop} {T : Addr} {xs : List V} {n : Nat} {t : TGs} (hT : SqT K H T xs) (hn : xs.length = n) (h : t xs σ H R) : gTup K n t (.ref T) σ H R := ⟨T, xs, rfl, hT, hn, h⟩
theorem x_gC {R : L2.St → Hp → Prop} {t : TG} {u : TGs} {r : List V} (h : t v σ H fun σ' H' => u r σ' H' R) : gCons t u (v :: r) σ H R := ⟨v, r, rfl, h⟩
theorem x_gN {R : L2.St → Hp → Prop} (h : R σ H) : gNil [] σ H R := ⟨rfl, h⟩
/-! for -/
section
variable {α : Type} {J : It} {G : Hp → Prop} {Y : Nat → Hp → V → Hp → Prop}
theorem for_A {l : List α} {enc : α → V} (w : Walk J l.length G Y) (hY : ∀ i H x H', Y i H x H' → H' = H ∧ ∃ a, l[i]? = some a ∧ x = enc a) (Pv : List α → List α → L2.St → Hp → Prop)
    (h0 : Pv [] l σ H) (hG : ∀ p r σ H, Pv p r σ H → G H)
    (hs : ∀ p a r σ H, l = p ++ a :: r → Pv p (a :: r) σ H → g (enc a) σ H fun σ' H' => tb { D with nx := Pv (p ++ [a]) r, ct := Pv (p ++ [a]) r, bk := D.nx } σ' H')
    (hd : ∀ σ H, Pv l [] σ H → D.nx σ H) : qFor J g tb D σ H := by
  refine for_it w (fun i σ H => Pv (l.take i) (l.drop i) σ H) h0 (fun i σ H _ h => hG _ _ _ _ h) (fun i x σ H H' hi hp hy => ?_) (fun σ H hp => ?_)
  · obtain ⟨rfl, a, ha, rfl⟩ := hY _ _ _ _ hy
    rw [take_drop_cons ha] at hp
    have q := hs (l.take i) a (l.drop (i + 1)) σ H' (pre_of ha) hp
    have e2 : l.take (i + 1) = l.take i ++ [a] := by
      rw [List.take_add_one, ha]
      rfl
    rw [← e2] at q
    exact q
  · refine hd σ H ?_
    rw [List.take_length, List.drop_length] at hp
    exact hp
theorem yat_map {l : List α} {enc : α → V} {i : Nat} {H : Hp} {x : V} {H' : Hp} (h : YAt (l.map enc) i H x H') : H' = H ∧ ∃ a, l[i]? = some a ∧ x = enc a := by
  obtain ⟨e1, hx⟩ := h
  rw [List.getElem?_map] at hx
  cases y : l[i]? with
  | none => rw [y] at hx; cases hx
  | some a => rw [y] at hx; exact ⟨e1, a, rfl, (Option.some.inj hx).symm⟩
theorem forA_L {p : Addr} {l : List α} {enc : α → V} (Pv : List α → List α → L2.St → Hp → Prop) (h0 : Pv [] l σ H) (hG : ∀ q r σ H, Pv q r σ H → SqL K H p (l.map enc))
    (hs : ∀ p a r σ H, l = p ++ a :: r → Pv p (a :: r) σ H → g (enc a) σ H fun σ' H' => tb { D with nx := Pv (p ++ [a]) r, ct := Pv (p ++ [a]) r, bk := D.nx } σ' H')
    (hd : ∀ σ H, Pv l [] σ H → D.nx σ H) : qFor (Itl K p) g tb D σ H := by
  have w := walk_list (K := K) (a := p) (xs := l.map enc)
  rw [List.length_map] at w
  exact for_A w (fun _ _ _ _ hy => yat_map hy) Pv h0 hG hs hd
theorem forA_T {p : Addr} {l : List α} {enc : α → V} (Pv : List α → List α → L2.St → Hp → Prop) (h0 : Pv [] l σ H) (hG : ∀ q r σ H, Pv q r σ H → SqT K H p (l.map enc))
    (hs : ∀ p a r σ H, l = p ++ a :: r → Pv p (a :: r) σ H → g (enc a) σ H fun σ' H' => tb { D with nx := Pv (p ++ [a]) r, ct := Pv (p ++ [a]) r, bk := D.nx } σ' H')
    (hd : ∀ σ H, Pv l [] σ H → D.nx σ H) : qFor (Itt K p) g tb D σ H := by
  have w := walk_tup (K := K) (a := p) (xs := l.map enc)
  rw [List.length_map] at w
  exact for_A w (fun _ _ _ _ hy => yat_map hy) Pv h0 hG hs hd
/-- enumerate(list), any target -/
theorem forA_En {p : Addr} {l : List α} {enc : α → V} (Pv : List α → List α → L2.St → Hp → Prop) (h0 : Pv [] l σ H) (hG : ∀ q r σ H, Pv q r σ H → SqL K H p (l.map enc))
    (hs : ∀ q a r σ H T H', l = q ++ a :: r → Pv q (a :: r) σ H → H T = none → Ex H H' → H' T = some (.tup [.int (q.length : Nat), enc a]) → g (.ref T) σ H' fun σ' H'' => tb { D with nx := Pv (q ++ [a]) r, ct := Pv (q ++ [a]) r, bk := D.nx } σ' H'')
    (hd : ∀ σ H, Pv l [] σ H → D.nx σ H) : qFor (Ite K p) g tb D σ H := by
  have w := walk_enum (K := K) (a := p) (xs := l.map enc)
  rw [List.length_map] at w
  refine for_it w (fun i σ H => Pv (l.take i) (l.drop i) σ H) h0 (fun i σ H _ h => hG _ _ _ _ h) (fun i x σ H H' hi hp hy => ?_) (fun σ H hp => ?_)
  · obtain ⟨T, x1, x2, rfl, hT, rfl, h1, h2⟩ := hy
    obtain rfl := (Option.some.inj h1).symm
    have h2 : (l.map enc)[i]? = some x2 := h2
    rw [List.getElem?_map] at h2
    cases q : l[i]? with
    | none => rw [q] at h2; cases h2
    | some a =>
      rw [q] at h2
      obtain rfl := (Option.some.inj h2).symm
      rw [take_drop_cons q] at hp
      have e3 : (l.take i).length = i := by rw [List.length_take]; omega
      have z := hs (l.take i) a (l.drop (i + 1)) σ H T _ (pre_of q) hp hT ((Ex.refl H).new hT) (by rw [e3]; exact upd_same)
      have e2 : l.take (i + 1) = l.take i ++ [a] := by
        rw [List.take_add_one, q]
        rfl
      rw [← e2] at z
      exact z
  · rw [List.take_length, List.drop_length] at hp
    exact hd σ H hp
/-! comprehensions -/
theorem lc_A {l : List α} {enc : α → V} (w : Walk J l.length G Y) (hY : ∀ i H x H', Y i H x H' → H' = H ∧ ∃ a, l[i]? = some a ∧ x = enc a) (Pv : Addr → List α → List V → Hp → Prop) (hG : ∀ L u acc H1, Pv L u acc H1 → G H1) (hz : l.length ≤ 1000000)
    (h0 : ∀ L, H L = none → Pv L [] [] (upd H L (.lst [])))
    (hs : ∀ L u a r acc H2, H L = none → l = u ++ a :: r → Pv L u acc H2 → H2 L = some (.lst acc) → acc.length ≤ u.length → ∀ (R1 : VK) (R2 : Hp → Prop),
      (∀ y H4, H4 L = some (.lst acc) → Pv L (u ++ [a]) (acc ++ [y]) (upd H4 L (.lst (acc ++ [y]))) → R1 y H4) → (∀ H4, H4 L = some (.lst acc) → Pv L (u ++ [a]) acc H4 → R2 H4) →
      g (enc a) (wipe σ vs) H2 fun σ' H' => wipe σ' vs = wipe σ vs ∧ tt σ' H' fun b H3 => if b = true then te σ' H3 R1 else R2 H3)
    (hq : ∀ L acc H1, H L = none → Pv L l acc H1 → H1 L = some (.lst acc) → Q (.ref L) H1) : qLc J g tt te vs σ H Q := by
  intro L hL
  refine lc_it w (fun i H1 => ∃ acc, Pv L (l.take i) acc H1 ∧ H1 L = some (.lst acc) ∧ acc.length ≤ (l.take i).length) ⟨[], h0 L hL, upd_same, Nat.le_refl _⟩ (fun i H1 _ ⟨_, hp, _⟩ => hG _ _ _ _ hp) (fun i x H1 H2 hi hp hy => ?_) (fun H1 hp => ?_)
  · obtain ⟨rfl, a, ha, rfl⟩ := hY _ _ _ _ hy
    obtain ⟨acc, p1, p2, p3⟩ := hp
    have e2 : l.take (i + 1) = l.take i ++ [a] := by
      rw [List.take_add_one, ha]
      rfl
    have e4 : (l.take i).length ≤ l.length := by rw [List.length_take]; omega
    refine hs L (l.take i) a (l.drop (i + 1)) acc H2 hL (pre_of ha) p1 p2 p3 _ _ (fun y H4 h1 h2 => ?_) fun H4 h1 h2 => ?_
    · refine ⟨acc, h1, by rw [sizeLine_eq]; omega, acc ++ [y], by rw [e2]; exact h2, upd_same, ?_⟩
      rw [e2, List.length_append, List.length_append]
      exact Nat.add_le_add_right p3 1
    · exact ⟨acc, by rw [e2]; exact h2, h1, by rw [e2, List.length_append]; omega⟩
  · obtain ⟨acc, p1, p2, p3⟩ := hp
    rw [List.take_length] at p1
    exact hq L acc H1 hL p1 p2
theorem lcA_L {q : Addr} {l : List α} {enc : α → V} (Pv : Addr → List α → List V → Hp → Prop) (hG : ∀ L u acc H1, Pv L u acc H1 → SqL K H1 q (l.map enc)) (hz : l.length ≤ 1000000)
    (h0 : ∀ L, H L = none → Pv L [] [] (upd H L (.lst [])))
    (hs : ∀ L u a r acc H2, H L = none → l = u ++ a :: r → Pv L u acc H2 → H2 L = some (.lst acc) → acc.length ≤ u.length → ∀ (R1 : VK) (R2 : Hp → Prop),
      (∀ y H4, H4 L = some (.lst acc) → Pv L (u ++ [a]) (acc ++ [y]) (upd H4 L (.lst (acc ++ [y]))) → R1 y H4) → (∀ H4, H4 L = some (.lst acc) → Pv L (u ++ [a]) acc H4 → R2 H4) →
      g (enc a) (wipe σ vs) H2 fun σ' H' => wipe σ' vs = wipe σ vs ∧ tt σ' H' fun b H3 => if b = true then te σ' H3 R1 else R2 H3)
    (hq : ∀ L acc H1, H L = none → Pv L l acc H1 → H1 L = some (.lst acc) → Q (.ref L) H1) : qLc (Itl K q) g tt te vs σ H Q := by
  have w := walk_list (K := K) (a := q) (xs := l.map enc)
  rw [List.length_map] at w
  exact lc_A w (fun _ _ _ _ hy => yat_map hy) Pv hG hz h0 hs hq
theorem lcA_T {q : Addr} {l : List α} {enc : α → V} (Pv : Addr → List α → List V → Hp → Prop) (hG : ∀ L u acc H1, Pv L u acc H1 → SqT K H1 q (l.map enc)) (hz : l.length ≤ 1000000)
    (h0 : ∀ L, H L = none → Pv L [] [] (upd H L (.lst [])))
    (hs : ∀ L u a r acc H2, H L = none → l = u ++ a :: r → Pv L u acc H2 → H2 L = some (.lst acc) → acc.length ≤ u.length → ∀ (R1 : VK) (R2 : Hp → Prop),
      (∀ y H4, H4 L = some (.lst acc) → Pv L (u ++ [a]) (acc ++ [y]) (upd H4 L (.lst (acc ++ [y]))) → R1 y H4) → (∀ H4, H4 L = some (.lst acc) → Pv L (u ++ [a]) acc H4 → R2 H4) →
      g (enc a) (wipe σ vs) H2 fun σ' H' => wipe σ' vs = wipe σ vs ∧ tt σ' H' fun b H3 => if b = true then te σ' H3 R1 else R2 H3)
    (hq : ∀ L acc H1, H L = none → Pv L l acc H1 → H1 L = some (.lst acc) → Q (.ref L) H1) : qLc (Itt K q) g tt te vs σ H Q := by
  have w := walk_tup (K := K) (a := q) (xs := l.map enc)
  rw [List.length_map] at w
  exact lc_A w (fun _ _ _ _ hy => yat_map hy) Pv hG hz h0 hs hq
end
theorem lcA_R {n : Nat} {lo : Int} (Pv : Addr → List Nat → List V → Hp → Prop) (hz : n ≤ 1000000)
    (h0 : ∀ L, H L = none → Pv L [] [] (upd H L (.lst [])))
    (hs : ∀ L u a r acc H2, H L = none → List.range n = u ++ a :: r → Pv L u acc H2 → H2 L = some (.lst acc) → acc.length ≤ u.length → ∀ (R1 : VK) (R2 : Hp → Prop),
      (∀ y H4, H4 L = some (.lst acc) → Pv L (u ++ [a]) (acc ++ [y]) (upd H4 L (.lst (acc ++ [y]))) → R1 y H4) → (∀ H4, H4 L = some (.lst acc) → Pv L (u ++ [a]) acc H4 → R2 H4) →
      g (.int (lo + (a : Nat))) (wipe σ vs) H2 fun σ' H' => wipe σ' vs = wipe σ vs ∧ tt σ' H' fun b H3 => if b = true then te σ' H3 R1 else R2 H3)
    (hq : ∀ L acc H1, H L = none → Pv L (List.range n) acc H1 → H1 L = some (.lst acc) → Q (.ref L) H1) : qLc (Itr lo n) g tt te vs σ H Q := by
  have w := walk_range (lo := lo) (n := n)
  refine lc_A (l := List.range n) (enc := fun i => V.int (lo + (i : Nat))) (G := fun _ => True) (Y := fun i H x H' => i < n ∧ (H' = H ∧ x = .int (lo + (i : Nat)))) ?_ (fun i H x H' hy => ?_) Pv (fun _ _ _ _ _ => trivial) (by simpa using hz) h0 hs hq
  · rw [List.length_range]
    exact ⟨fun i H hi _ => w.goes i H hi trivial, fun H _ => w.stops H trivial, fun i H x H' hi _ y => ⟨hi, w.yields i H x H' hi trivial y⟩⟩
  · obtain ⟨hi, e1, e2⟩ := hy
    exact ⟨e1, i, by rw [List.getElem?_range hi], e2⟩
/-! nested dicts -/
theorem x_nnew (h : ∀ p H', H p = none → Ex H H' → NDict P w H' p [] → Q (.ref p) H') : tNNew P w σ H Q := h
theorem x_nget (h : td σ H fun x H1 => ty σ H1 (qNGet P w Q x)) : tNGet P w td ty σ H Q := h
theorem x_nin {neg : Bool} (h : ty σ H fun y H1 => td σ H1 (qNIn P w neg Q y)) : tNIn P w neg ty td σ H Q := h
theorem x_nput (h : tv σ H fun v H1 => td σ H1 fun x H2 => ty σ H2 (qNPut P w D σ v x)) : sNPut P w td ty tv D σ H := h
def qNGetD (P : Program) (w : World) (ty tx : TE) (σ : L2.St) (Q : VK) : VK := fun x H1 => ∃ d kvs, x = .ref d ∧ NDict P w H1 d kvs ∧ ty σ H1 fun y H2 => tx σ H2 (qNGet2 P w Q d y)
theorem x_nget2 (h : td σ H (qNGetD P w ty tx σ Q)) : tNGet2 P w td ty tx σ H Q := h
theorem x_qNGetD {d : Addr} {kvs : List (NK × V)} (n : NDict P w H d kvs) (h : ty σ H fun y H2 => tx σ H2 (qNGet2 P w Q d y)) : qNGetD P w ty tx σ Q (.ref d) H := ⟨d, kvs, rfl, n, h⟩
theorem x_qNGet2 {d b : Addr} {k : NK} {kvs : List (NK × V)} {z : V} (n : NDict P w H d kvs) (hk : NkV H k (.ref b)) (hd : k.depth ≤ 8) (h : Q ((valV kvs k).getD z) H) : qNGet2 P w Q d (.ref b) z H := ⟨b, k, kvs, rfl, n, hk, hd, h⟩
theorem x_qNGet {d b : Addr} {k : NK} {kvs : List (NK × V)} (n : NDict P w H d kvs) (hk : NkV H k (.ref b)) (hd : k.depth ≤ 8) (hv : valV kvs k = some v) (h : Q v H) : qNGet P w Q (.ref d) (.ref b) H := ⟨d, b, k, kvs, v, rfl, rfl, n, hk, hd, hv, h⟩
theorem x_qNIn {d b : Addr} {k : NK} {kvs : List (NK × V)} (n : NDict P w H d kvs) (hk : NkV H k (.ref b)) (hd : k.depth ≤ 8) (h : Q (.bl (valV kvs k).isSome) H) : qNIn P w false Q (.ref b) (.ref d) H := ⟨d, b, k, kvs, rfl, rfl, n, hk, hd, h⟩
theorem x_qNNotIn {d b : Addr} {k : NK} {kvs : List (NK × V)} (n : NDict P w H d kvs) (hk : NkV H k (.ref b)) (hd : k.depth ≤ 8) (h : Q (.bl (!(valV kvs k).isSome)) H) : qNIn P w true Q (.ref b) (.ref d) H := ⟨d, b, k, kvs, rfl, rfl, n, hk, hd, h⟩
theorem x_qNPut {d b : Addr} {k : NK} {kvs : List (NK × V)} (n : NDict P w H d kvs) (hk : NkV H k (.ref b)) (hd : k.depth ≤ 8) (hz : kvs.length ≤ 1000000) (h : ∀ H4, NDict P w H4 d (putK kvs k v) → (∀ a, a ≠ d → H4 a = H a) → D.nx σ H4) : qNPut P w D σ v (.ref d) (.ref b) H :=
  ⟨d, b, k, kvs, rfl, rfl, n, hk, hd, by rw [sizeLine_eq]; omega, h⟩
/-! x in o -/
theorem x_inO {X : Cx} {CX : CXT} {k : Nat} {E : L2.St → XK} (h : ty σ H fun y H1 => ta σ H1 (qInO X CX k E σ Q y)) : tInO X CX k E ty ta σ H Q := h
theorem in_tr {X : Cx} {pn : List (Addr × Obj)} {xe : Value → Shared → Prop} : InOf (X.tr pn xe) = InOf X := by
  funext CX k C sp
  exact propext ⟨fun h => ⟨h.ex⟩, fun h => ⟨h.ex⟩⟩
theorem pc_inT {X : Cx} {pn : List (Addr × Obj)} {xe : Value → Shared → Prop} {CX : CXT} {k : Nat} {E : L2.St → XK} {i o : Expr} {ty ta : TE} (hi : PE (X.tr pn xe) i ty) (ho : PE (X.tr pn xe) o ta) (hr : Room k (X.tr pn xe).A) (hx : ∀ σ, PassesAt CX (X.tr pn xe) σ (E σ)) :
    PC (X.tr pn xe) .In i o (tInO X CX k E ty ta) := by
  have h := pc_inO (X := X.tr pn xe) (CX := CX) (k := k) (E := E) hi ho hr hx
  have e1 : tInO (X.tr pn xe) CX k E ty ta = tInO X CX k E ty ta := by
    unfold tInO qInO
    rw [in_tr]
  rw [← e1]
  exact h
end
/-! a heap's part is kept: what a def's own list or dict at q leaves -/
theorem NDict.fld {P : Program} {w : World} {H : Hp} {d a : Addr} {kvs : List (NK × V)} {C dx : Addr} {fs : List (Str × V)} (n : NDict P w H d kvs) (h : H a = some (.ins C dx fs)) : d ≠ a := fun e => by
  obtain ⟨xs, _, h2, _⟩ := n
  rw [e, h] at h2
  cases h2
theorem NDict.neL {P : Program} {w : World} {H : Hp} {d a : Addr} {kvs : List (NK × V)} {xs : List V} (n : NDict P w H d kvs) (h : H a = some (.lst xs)) : a ≠ d := fun e => by
  obtain ⟨_, _, h2, _⟩ := n
  rw [← e, h] at h2
  cases h2
theorem NDict.neT {P : Program} {w : World} {H : Hp} {d a : Addr} {kvs : List (NK × V)} {xs : List V} (n : NDict P w H d kvs) (h : H a = some (.tup xs)) : a ≠ d := fun e => by
  obtain ⟨_, _, h2, _⟩ := n
  rw [← e, h] at h2
  cases h2
/-- .. after a store at d -/
theorem NDict.off {P : Program} {w : World} {H H' : Hp} {d b : Addr} {kvs : List (NK × V)} (n : NDict P w H d kvs) (hb : d ≠ b) (ht : ∀ xs, H b ≠ some (.tup xs)) (k : ∀ a, a ≠ b → H' a = H a) : NDict P w H' d kvs := n.mono fun a o ha hx => by
  rw [k a ?_]
  · exact ha
  · rintro rfl
    rcases hx with rfl | ⟨vs, rfl⟩
    · exact hb rfl
    · exact ht _ ha
end TY

/-! tuple(x), list(x), comprehensions over a tuple; what raises keeps -/
namespace TY
open PySem PyProof.Rows PySem.Spec L2

theorem x_then {σ : L2.St} {H : Hp} {Q : VK} {ta : TE} {k : V → Hp → VK → Prop} (h : ta σ H fun x H1 => k x H1 Q) : tThen ta k σ H Q := h
theorem x_kTupL {K : PySem.W.Frag} {H : Hp} {Q : VK} {p : Addr} {xs : List V} (hp : SqL K H p xs) (h : ∀ q H', H q = none → Ex H H' → H' q = some (.tup xs) → Q (.ref q) H') : kTup K (.ref p) H Q :=
  .inl ⟨p, xs, rfl, hp, fun q hq => h q _ hq ((Ex.refl H).new hq) upd_same⟩
theorem x_kTupT {K : PySem.W.Frag} {H : Hp} {Q : VK} {p : Addr} {xs : List V} (hp : SqT K H p xs) (h : Q (.ref p) H) : kTup K (.ref p) H Q := .inr ⟨p, xs, rfl, hp, h⟩
def qTupI (K : PySem.W.Frag) : V → Hp → (It → Hp → Prop) → Prop := fun x H R => ∃ a, x = .ref a ∧ (∃ xs, SqT K H a xs) ∧ R (Itt K a) H
theorem x_iTup {K : PySem.W.Frag} {σ : L2.St} {H : Hp} {te : TE} {R : It → Hp → Prop} (h : te σ H fun x H1 => qTupI K x H1 R) : iTup K te σ H R := h
theorem x_qTupI {K : PySem.W.Frag} {H : Hp} {p : Addr} {xs : List V} {R : It → Hp → Prop} (hp : SqT K H p xs) (h : R (Itt K p) H) : qTupI K (.ref p) H R := ⟨p, rfl, ⟨xs, hp⟩, h⟩
theorem lc_T {α : Type} {σ : L2.St} {H : Hp} {tt : TT} {te : TE} {Q : VK} {vs : List Nat} {j : Nat} {K : PySem.W.Frag} {q : Addr} {l : List α} {enc : α → V} (f : α → Bool) (v : α → V) (hp : H q = some (.tup (l.map enc))) (hz : l.length ≤ 1000000)
    (hw : ∀ x, wipe ((wipe σ vs).set j (some x)) vs = wipe σ vs)
    (ht : ∀ p a r H1, l = p ++ a :: r → Ex H H1 → ∀ R : Bool → Hp → Prop, (∀ H2, Ex H1 H2 → R (f a) H2) → tt ((wipe σ vs).set j (some (enc a))) H1 R)
    (he : ∀ p a r H1, l = p ++ a :: r → Ex H H1 → f a = true → ∀ R : VK, (∀ H2, Ex H1 H2 → R (v a) H2) → te ((wipe σ vs).set j (some (enc a))) H1 R)
    (hq : ∀ p H1, H p = none → Ex H H1 → H1 p = some (.lst ((l.filter f).map v)) → Q (.ref p) H1) : qLc (Itt K q) (gName j) tt te vs σ H Q := by
  have w := walk_tup (K := K) (a := q) (xs := l.map enc)
  rw [List.length_map] at w
  refine go_lc (l := l) (enc := enc) f v w (fun i H x H' hi hy => ?_) (fun H1 e => .inl (.inl (e _ _ hp))) hz hw ht he hq
  exact yat_map hy
theorem x_listT {K : PySem.W.Frag} {H : Hp} {Q : VK} {p : Addr} {ys : List V} (hp : H p = some (.tup ys)) (h : ∀ l H', H l = none → Ex H H' → H' l = some (.lst ys) → Q (.ref l) H') : qList K [.ref p] H Q :=
  ⟨p, ys, rfl, .inr (.inl (.inl hp)), fun l hl => h l _ hl ((Ex.refl H).new hl) upd_same⟩
theorem x_listLg {K : PySem.W.Frag} {H : Hp} {Q : VK} {p : Addr} {ys : List V} (hp : H p = some (.lst ys)) (h : ∀ l H', H l = none → Ex H H' → H' l = some (.lst ys) → Q (.ref l) H') : qList K [.ref p] H Q :=
  ⟨p, ys, rfl, .inl (.inl (.inl hp)), fun l hl => h l _ hl ((Ex.refl H).new hl) upd_same⟩
abbrev Keeps (p : Option Addr) (H H' : Hp) : Prop := ∀ a o, some a ≠ p → H a = some o → H' a = some o
theorem keeps_ex {H H' : Hp} (k : Keeps none H H') : Ex H H' := fun a o h => k a o (fun z => nomatch z) h
theorem x_isiT {K : PySem.W.Frag} {H : Hp} {Q : VK} {p : Addr} {xs : List V} {T : String} {b : Bool} (hp : H p = some (.tup xs)) (hk : PySem.W.kitOne K (.type "tuple") (.type T) = some b) (h : Q (.bl b) H) : rIsi K [.ref p, .ty T] H Q := ⟨.ref p, .ty T, .type "tuple", .type T, b, rfl, .ty T, .base (.tup hp), hk, h⟩
/-- .. a new one is forgotten -/
theorem Keeps.ex {p : Option Addr} {H H1 H2 : Hp} (k : Keeps p H H1) (e : Ex H1 H2) : Keeps p H H2 := fun a o n h => e _ _ (k a o n h)
theorem Ex.keeps {p : Option Addr} {H H1 : Hp} (e : Ex H H1) : Keeps p H H1 := fun a o _ h => e a o h
theorem Keeps.trans {p : Option Addr} {H H1 H2 : Hp} (k : Keeps p H H1) (e : Keeps p H1 H2) : Keeps p H H2 := fun a o n h => e a o n (k a o n h)
/-- a list, dict or other thing that was new is changed -/
theorem Ex.off {H H1 H2 : Hp} {q : Addr} (e : Ex H H1) (hq : H q = none) (k : ∀ a, a ≠ q → H2 a = H1 a) : Ex H H2 := fun a o h => by
  rw [k a (ne_of_none h hq)]
  exact e a o h
theorem pe_tupleOfK {X : Cx} {K : PySem.W.Frag} {p pos : Pos} {a : Expr} {ta : TE} (hK : X.K = K) (hg : Gl X "tuple") (hm : X.mg "tuple" = none) (ha : PE X a ta) (na : starEach [a] X.env = (false, eval a X.env) :: starEach [] X.env := by rfl) : PE X (.Call (.Name "tuple" p) [a] [] pos) (tThen ta (kTup K)) := by
  subst hK
  exact pe_tupleOf hg hm ha (na := na)
theorem x_catTg {K : PySem.W.Frag} {H : Hp} {Q : VK} {a b : Addr} {xs ys : List V} (ha : H a = some (.tup xs)) (hb : H b = some (.tup ys)) (hx : xs ≠ []) (hz : xs.length + ys.length ≤ 1000000) (h : ∀ p H', Ex H H' → H' p = some (.tup (xs ++ ys)) → Q (.ref p) H') : rCatT K (.ref a) (.ref b) H Q :=
  ⟨a, b, xs, ys, rfl, rfl, .inl (.inl ha), .inl (.inl hb), hx, Nat.le_trans hz (by decide), fun e => h a H (Ex.refl H) (by rw [e, List.append_nil]; exact ha), fun _ p hp => h p _ ((Ex.refl H).new hp) upd_same⟩
theorem meth_tr {X : Cx} {pn : List (Addr × Obj)} {xe : Value → Shared → Prop} : MethOf (X.tr pn xe) = MethOf X := by
  funext CX k C m sp
  exact propext ⟨fun h => ⟨h.ex⟩, fun h => ⟨h.ex⟩⟩
theorem pe_methT {X : Cx} {pn : List (Addr × Obj)} {xe : Value → Shared → Prop} {CX : CXT} {k : Nat} {m : PySem.Str} {E : L2.St → XK} {o e : Expr} {es : List Expr} {ta : TE} {t : TA} {pos apos : Pos} {pl : Sem Bool} (he : PE (X.tr pn xe) o ta) (hr : Room k (X.tr pn xe).A) (hx : ∀ σ, PassesAt CX (X.tr pn xe) σ (E σ)) (ha : PA (X.tr pn xe) (e :: es) t)
    (hst : (starEach (e :: es) (X.tr pn xe).env) = (false, eval e (X.tr pn xe).env) :: starEach es (X.tr pn xe).env := by rfl) (hpl : ((backTo pos (starEach es (X.tr pn xe).env)).any (·.1)) = false := by rfl)
    (ht : (eval (.Call (.Attribute o m apos) (e :: es) [] pos) (X.tr pn xe).env) = (do
      let ov ← eval o (X.tr pn xe).env
      standAt apos.atName
      let (f, first) ← (holding [ov] (getMethod ov m pl))
      (callWith pos f first (backTo pos (starEach (e :: es) (X.tr pn xe).env)) (backToKw pos (keywordEach [] (X.tr pn xe).env)))) := by rfl) :
    PE (X.tr pn xe) (.Call (.Attribute o m apos) (e :: es) [] pos) (tMethA X CX k m E ta t) := by
  have h := pe_methA (X := X.tr pn xe) (pl := pl) he hr hx ha hst hpl ht
  have e1 : tMethA (X.tr pn xe) CX k m E ta t = tMethA X CX k m E ta t := by
    unfold tMethA
    rw [meth_tr]
  rw [← e1]
  exact h
/-- the suite of the i-th statement, a try -/
def bodyOf (ss : List Stmt) (i : Nat) : List Stmt := match ss.getD i (.Pass ⟨0, 0, 0, 0⟩) with
  | .Try b _ _ _ _ => b
  | _ => []
theorem lcA_S {σ : L2.St} {H : Hp} {tt : TT} {te : TE} {g : TG} {Q : VK} {vs : List Nat} {l : List Nat} (Pv : Addr → List Nat → List V → Hp → Prop) (hz : l.length ≤ 1000000)
    (h0 : ∀ L, H L = none → Pv L [] [] (upd H L (.lst [])))
    (hs : ∀ L u a r acc H2, H L = none → l = u ++ a :: r → Pv L u acc H2 → H2 L = some (.lst acc) → acc.length ≤ u.length → ∀ (R1 : VK) (R2 : Hp → Prop),
      (∀ y H4, H4 L = some (.lst acc) → Pv L (u ++ [a]) (acc ++ [y]) (upd H4 L (.lst (acc ++ [y]))) → R1 y H4) → (∀ H4, H4 L = some (.lst acc) → Pv L (u ++ [a]) acc H4 → R2 H4) →
      g (S [a]) (wipe σ vs) H2 fun σ' H' => wipe σ' vs = wipe σ vs ∧ tt σ' H' fun b H3 => if b = true then te σ' H3 R1 else R2 H3)
    (hq : ∀ L acc H1, H L = none → Pv L l acc H1 → H1 L = some (.lst acc) → Q (.ref L) H1) : qLc (Its (st l)) g tt te vs σ H Q := by
  have e : (st l).cps.size = l.length := by simp [st]
  have w := walk_str (z := st l)
  rw [e] at w
  refine lc_A (l := l) (enc := fun c => S [c]) w (fun i H x H' hy => ?_) Pv (fun _ _ _ _ _ => trivial) hz h0 hs hq
  obtain ⟨e1, c, hc, e2⟩ := hy
  exact ⟨e1, c, by simpa [st] using hc, e2⟩
theorem op_neDK {X : Cx} {K : PySem.W.Frag} (hK : X.K = K) (hu : X.A.units + 64 < cLine) : OpR X (compareOp .NotEq) (rNeD K) := by
  subst hK
  exact op_neD hu
theorem op_eqDK {X : Cx} {K : PySem.W.Frag} (hK : X.K = K) (hu : X.A.units + 64 < cLine) : OpR X (compareOp .Eq) (rEqD K) := by
  subst hK
  exact op_eqD hu
theorem room65 {k : Nat} {A : Around} (r : Room k A) : A.units + 65 < cLine := by have := r.un; omega
/-- an if, its test told -/
theorem x_ifB {tt : TT} {σ : L2.St} {H : Hp} {A B : Hp → Prop} (b : Bool) (ht : ∀ R : Bool → Hp → Prop, (∀ H', Ex H H' → R b H') → tt σ H R) (h1 : b = true → ∀ H', Ex H H' → A H') (h2 : b = false → ∀ H', Ex H H' → B H') : tt σ H fun b H' => if b = true then A H' else B H' := by
  refine ht _ fun H' e => ?_
  cases b with
  | true =>
    rw [if_pos rfl]
    exact h1 rfl H' e
  | false =>
    rw [if_neg (by decide)]
    exact h2 rfl H' e
end TY

/-! an instance called, its class told by the reading; d.setdefault; dict(d); keys walked -/
namespace TY
open PySem PySem.W PySem.Calls PySem.Spec PyProof.Rows L2

structure CallOf (X : Cx) (CX : CXT) (k : Nat) (C : Addr) (sp : Sp) : Prop where
  ex : ∃ (f : Addr) (fd : FuncData) (ps : List PySem.Str) (j : Nat), j ≤ k ∧ StX.CallO X.K C f ∧ FnOk X.prog X.w X.K X.mg X.base CX j f fd ps sp ∧ Binds X.K fd ps []
def qCallOA (X : Cx) (CX : CXT) (k : Nat) (E : XK) (t : TA) (σ : L2.St) (Q : VK) : VK := fun y H1 => ∃ a C dx fs sp, y = .ref a ∧ H1 a = some (.ins C dx fs) ∧ CallOf X CX k C sp ∧ t σ H1 fun vs H2 => H2 a = some (.ins C dx fs) ∧ sp (.ref a :: vs) H2 Q E
def tCallOA (X : Cx) (CX : CXT) (k : Nat) (E : XK) (tf : TE) (t : TA) : TE := fun σ H Q => tf σ H (qCallOA X CX k E t σ Q)
theorem pe_callOA {X : Cx} {CX : CXT} {k : Nat} {E : XK} {fe e : Expr} {es : List Expr} {pos : Pos} {tf : TE} {t : TA} (hf : PE X fe tf) (hr : Room k X.A) (hx : Passes CX X E) (ha : PA X (e :: es) t)
    (ht : (eval (.Call fe (e :: es) [] pos) X.env) = (do callWith pos (← eval fe X.env) [] (backTo pos (starEach (e :: es) X.env)) (backToKw pos (keywordEach [] X.env))) := by rfl)
    (hst : starEach (e :: es) X.env = (false, eval e X.env) :: starEach es X.env := by rfl) (hpl : (backTo pos (starEach es X.env)).any (·.1) = false := by rfl) : PE X (.Call fe (e :: es) [] pos) (tCallOA X CX k E tf t) := by
  (refine ⟨fun pins s σ H Q I h => ?_⟩)
  refine Call_ (thn (hf.run pins s σ H _ I h) fun u s1 ⟨y, H1, I1, ry, a, C, dx, fs, sp, ey, ea, co, q⟩ => ?_) ht
  subst ey
  (obtain rfl : u = Value.ref a := ry)
  obtain ⟨f, fd, ps, j, hj, c, F, hb⟩ := co.ex
  have FR := (F.raw hb (dvs := []) .nil).imp (sp' := sp) fun vs H Q E z => by rw [List.append_nil]; exact z
  refine StX.callO_with (thn (ha.run pos pins s1 σ H1 _ I1 q) fun us s2 ⟨vs, H2, I2, r, hi, q2⟩ => ?_) hst hpl
  have ic : StX.InsC X H2 a C := .inr ⟨dx, fs, hi⟩
  obtain ⟨ox, od, J, hd⟩ := StX.insC_at I2 ic
  exact ⟨⟨C, ox, od, J, hd⟩, StX.run_callO c FR (hr.mono hj) hx I2 ic r q2⟩
theorem passX {P : Program} {w : World} {X : Cx} : Passes (L2.CX P w) X E0 := fun pins σ H s e s' I c => passX0 σ pins H s e s' I c
section
variable {σ : L2.St} {H : Hp} {Q : VK} {td ty tx tf : TE}
theorem x_callOA {X : Cx} {CX : CXT} {k : Nat} {E : XK} {t : TA} (h : tf σ H (qCallOA X CX k E t σ Q)) : tCallOA X CX k E tf t σ H Q := h
/-- d.setdefault(text, z) -/
def qSetd2 (Q : VK) (a : Addr) (y : V) : VK := fun z H3 => ∃ (kvs : List (Key × V)) (k : Key), H3 a = some (.dK kvs) ∧ y = kV k ∧ kvs.length < sizeLine ∧ (∀ v, valV kvs k = some v → Q v H3) ∧ (valV kvs k = none → Q z (upd H3 a (.dK (putK kvs k z))))
def qSetd (ty tx : TE) (σ : L2.St) (Q : VK) : VK := fun x H1 => ∃ a, x = .ref a ∧ IsD H1 a ∧ ty σ H1 fun y H2 => tx σ H2 (qSetd2 Q a y)
theorem x_setd (h : td σ H (qSetd ty tx σ Q)) : tDSetd td ty tx σ H Q := h
theorem x_qSetd {a : Addr} {kvs : List (Key × V)} (hd : H a = some (.dK kvs)) (h : ty σ H fun y H2 => tx σ H2 (qSetd2 Q a y)) : qSetd ty tx σ Q (.ref a) H := ⟨a, rfl, .inl ⟨kvs, .inl hd⟩, h⟩
theorem x_qSetd2 {a : Addr} {kvs : List (Key × V)} {l : List Nat} {z : V} (hd : H a = some (.dK kvs)) (hz : kvs.length ≤ 1000000) (h1 : ∀ v, valV kvs (.inr (st l)) = some v → Q v H) (h2 : valV kvs (.inr (st l)) = none → ∀ H', H' a = some (.dK (putK kvs (.inr (st l)) z)) → (∀ b, b ≠ a → H' b = H b) → Q z H') : qSetd2 Q a (S l) z H :=
  ⟨kvs, .inr (st l), hd, rfl, Nat.lt_of_le_of_lt hz (by decide), h1, fun e => h2 e _ upd_same fun b n => upd_ne n⟩
/-- text (not) in d -/
def qDNotIn (Q : VK) (y : V) : VK := fun x H2 => ∃ a o, x = .ref a ∧ DGet H2 a y o ∧ Q (.bl (!o.isSome)) H2
theorem x_dnotin (h : ty σ H fun y H1 => td σ H1 (qDNotIn Q y)) : tDNotIn ty td σ H Q := h
theorem x_qDNotIn {a : Addr} {kvs : List (Key × V)} {l : List Nat} (hd : H a = some (.dK kvs)) (h : Q (.bl (!(valV kvs (.inr (st l))).isSome)) H) : qDNotIn Q (S l) (.ref a) H := ⟨a, _, rfl, DGet.k (k := .inr (st l)) hd, h⟩
theorem x_qDInS {a : Addr} {kvs : List (Key × V)} {l : List Nat} (hd : H a = some (.dK kvs)) (h : Q (.bl (valV kvs (.inr (st l))).isSome) H) : qDIn Q (S l) (.ref a) H := ⟨a, _, rfl, DGet.k (k := .inr (st l)) hd, h⟩
/-- dict(d) -/
def qDictD : List V → Hp → VK → Prop := fun xs H Q => ∃ (a : Addr) (kvs : List (Key × V)), xs = [.ref a] ∧ Rd H a (.dK kvs) ∧ ∀ p, H p = none → Q (.ref p) (upd H p (.dK kvs))
theorem l_dictD {t : TA} (h : t σ H fun vs H1 => qDictD vs H1 Q) : tCB (fun xs H Q => ∃ (a : Addr) (kvs : List (Key × V)), xs = [.ref a] ∧ Rd H a (.dK kvs) ∧ ∀ p, H p = none → Q (.ref p) (upd H p (.dK kvs))) t σ H Q := h
theorem x_dictD {a : Addr} {kvs : List (Key × V)} (hd : H a = some (.dK kvs)) (h : ∀ p H', H p = none → Ex H H' → H' p = some (.dK kvs) → Q (.ref p) H') : qDictD [.ref a] H Q := ⟨a, kvs, rfl, .inl hd, fun p hp => h p _ hp ((Ex.refl H).new hp) upd_same⟩
end
end TY

/-! a loop over a dict's keys, the dict locked -/
namespace TY
open PySem PySem.W PySem.Calls PySem.Spec PyProof.Rows L2
section
variable {K : PySem.W.Frag} {σ : L2.St} {H : Hp} {Q : VK} {td ty : TE} {t : TS} {D : Ends} {R : It → Hp → Prop} {g : TG} {tb : TS}
theorem upd_back {d : Addr} {u v : HO} (hd : H d = some u) : upd (upd H d v) d u = H := by
  funext b
  by_cases e : b = d
  · rw [e, upd_same, hd]
  · rw [upd_ne e, upd_ne e]
theorem x_lockD {d : Addr} {kvs : List (Key × V)} (hd : H d = some (.dK kvs))
    (h : ∀ od, t ⟨fun σ' H' => H' d = some (.frz od (.dK kvs)) ∧ D.nx σ' (upd H' d (.dK kvs)), fun v H' => H' d = some (.frz od (.dK kvs)) ∧ D.rt v (upd H' d (.dK kvs)), fun σ' H' => H' d = some (.frz od (.dK kvs)) ∧ D.bk σ' (upd H' d (.dK kvs)), fun σ' H' => H' d = some (.frz od (.dK kvs)) ∧ D.ct σ' (upd H' d (.dK kvs))⟩ σ (upd H d (.frz od (.dK kvs)))) : tLock t D σ H :=
  ⟨d, _, hd, trivial, h⟩
def qKeys (R : It → Hp → Prop) : VK := fun x H1 => ∃ d o, x = .ref d ∧ ((∃ kvs, H1 d = some (.frz o (.dK kvs)) ∧ R (Itk d o kvs) H1) ∨ ∃ kvs, H1 d = some (.frz o (.dT kvs)) ∧ R (Itkt d o kvs) H1)
theorem x_iKeys (h : td σ H (qKeys R)) : iKeys td σ H R := h
theorem x_qKeys {d : Addr} {od : Obj} {kvs : List (Key × V)} (hd : H d = some (.frz od (.dK kvs))) (h : R (Itk d od kvs) H) : qKeys R (.ref d) H := ⟨d, od, rfl, .inl ⟨kvs, hd, h⟩⟩
theorem for_K {d : Addr} {od : Obj} {kvs : List (Key × V)} (Pv : List (Key × V) → List (Key × V) → L2.St → Hp → Prop) (h0 : Pv [] kvs σ H) (hG : ∀ q r σ H, Pv q r σ H → H d = some (.frz od (.dK kvs)))
    (hs : ∀ p a r σ H, kvs = p ++ a :: r → Pv p (a :: r) σ H → g (kV a.1) σ H fun σ' H' => tb { D with nx := Pv (p ++ [a]) r, ct := Pv (p ++ [a]) r, bk := D.nx } σ' H')
    (hd : ∀ σ H, Pv kvs [] σ H → D.nx σ H) : qFor (Itk d od kvs) g tb D σ H :=
  for_A (l := kvs) (enc := fun a => kV a.1) walk_keys (fun i H x H' y => by
    obtain ⟨e1, k, v, e2, e3⟩ := y
    exact ⟨e1, (k, v), e2, e3⟩) Pv h0 hG hs hd
theorem Rd.lock {d a : Addr} {od : Obj} {kvs kus : List (Key × V)} (hd : H d = some (.dK kvs)) (ha : H a = some (.dK kus)) : Rd (upd H d (.frz od (.dK kvs))) a (.dK kus) := by
  by_cases e : a = d
  · subst e
    rw [hd] at ha
    cases ha
    exact .inr ⟨od, upd_same⟩
  · exact .inl (by rw [upd_ne e]; exact ha)
theorem dget_rd {a : Addr} {kvs : List (Key × V)} {k : Key} (h : Rd H a (.dK kvs)) : DGet H a (kV k) (valV kvs k) := .inl ⟨kvs, k, h, rfl, rfl⟩
theorem x_rDGet {a : Addr} {kvs : List (Key × V)} {l : List Nat} {v : V} (hd : Rd H a (.dK kvs)) (hv : valV kvs (.inr (st l)) = some v) (h : Q v H) : qDGet Q (.ref a) (S l) H :=
  ⟨a, v, rfl, by rw [← hv]; exact dget_rd (k := .inr (st l)) hd, h⟩
theorem x_rDNotIn {a : Addr} {kvs : List (Key × V)} {l : List Nat} (hd : Rd H a (.dK kvs)) (h : Q (.bl (!(valV kvs (.inr (st l))).isSome)) H) : qDNotIn Q (S l) (.ref a) H := ⟨a, _, rfl, dget_rd (k := .inr (st l)) hd, h⟩
theorem x_isiD {p : Addr} {kvs : List (Key × V)} {T : String} {b : Bool} (hp : H p = some (.dK kvs)) (hk : PySem.W.kitOne K (.type "dict") (.type T) = some b) (h : Q (.bl b) H) : rIsi K [.ref p, .ty T] H Q := ⟨.ref p, .ty T, .type "dict", .type T, b, rfl, .ty T, .base (.dK hp), hk, h⟩
end
end TY

/-! trees in plain Lean: a forest is empty, or a letter, the forest of its kids, and the trees behind it -/
namespace TY
inductive Fo where
  | nil
  | cons (c : Nat) (k r : Fo)
  deriving DecidableEq
namespace Fo
def wrap (l : List Nat) : List Nat := if l = [] then [] else 40 :: (l ++ [41])
def flat : Fo → List Nat
  | nil => []
  | cons c k r => c :: (wrap k.flat ++ r.flat)
def roots : Fo → List Nat
  | nil => []
  | cons c _ r => c :: r.roots
def ids : Fo → List Nat
  | nil => []
  | cons c k r => c :: (k.ids ++ r.ids)
def size (f : Fo) : Nat := f.ids.length
def map (g : Nat → Nat) : Fo → Fo
  | nil => nil
  | cons c k r => cons (g c) (k.map g) (r.map g)
def width (f : Fo) : Nat := f.roots.length
/-- a place of it: its letter, its kids -/
def Node : Fo → Nat → Fo → Prop
  | nil, _, _ => False
  | cons c k r, id, k' => (c = id ∧ k = k') ∨ k.Node id k' ∨ r.Node id k'
/-- at most three kids each -/
def K3 : Fo → Prop
  | nil => True
  | cons _ k r => k.width ≤ 3 ∧ k.K3 ∧ r.K3
theorem wrap_nil : wrap [] = [] := rfl
theorem wrap_len (l : List Nat) : (wrap l).length ≤ l.length + 2 := by
  unfold wrap
  split
  · simp
  · simp
theorem flat_nil_iff : ∀ f : Fo, f.flat = [] ↔ f = nil
  | nil => by simp [flat]
  | cons c k r => by simp [flat]
theorem flat_len : ∀ f : Fo, f.flat.length ≤ 3 * f.size
  | nil => by simp [flat]
  | cons c k r => by
    have h1 := flat_len k
    have h2 := flat_len r
    have h3 := wrap_len k.flat
    unfold size at *
    simp only [flat, ids, List.length_cons, List.length_append]
    omega
theorem ids_map (g : Nat → Nat) : ∀ f : Fo, (f.map g).ids = f.ids.map g
  | nil => rfl
  | cons c k r => by simp [map, ids, ids_map g k, ids_map g r]
theorem size_map (g : Nat → Nat) (f : Fo) : (f.map g).size = f.size := by
  unfold size
  rw [ids_map, List.length_map]
theorem roots_map (g : Nat → Nat) : ∀ f : Fo, (f.map g).roots = f.roots.map g
  | nil => rfl
  | cons c k r => by simp [map, roots, roots_map g r]
theorem K3_map (g : Nat → Nat) : ∀ f : Fo, f.K3 → (f.map g).K3
  | nil, _ => trivial
  | cons c k r, h => by
    refine ⟨?_, K3_map g k h.2.1, K3_map g r h.2.2⟩
    unfold width
    rw [roots_map, List.length_map]
    exact h.1
theorem node_trans : ∀ {f : Fo} {i j : Nat} {k k' : Fo}, f.Node i k → k.Node j k' → f.Node j k'
  | nil, _, _, _, _, h, _ => h.elim
  | cons c ks r, i, j, k, k', h, h' => by
    rcases h with ⟨_, rfl⟩ | h | h
    · exact .inr (.inl h')
    · exact .inr (.inl (node_trans h h'))
    · exact .inr (.inr (node_trans h h'))
theorem node_mem : ∀ {f : Fo} {i : Nat} {k : Fo}, f.Node i k → i ∈ f.ids
  | nil, _, _, h => h.elim
  | cons c ks r, i, k, h => by
    rcases h with ⟨rfl, _⟩ | h | h
    · simp [ids]
    · simp [ids, node_mem h]
    · simp [ids, node_mem h]
theorem mem_node : ∀ {f : Fo} {i : Nat}, i ∈ f.ids → ∃ k, f.Node i k
  | nil, _, h => by simp [ids] at h
  | cons c ks r, i, h => by
    simp only [ids, List.mem_cons, List.mem_append] at h
    rcases h with rfl | h | h
    · exact ⟨ks, .inl ⟨rfl, rfl⟩⟩
    · obtain ⟨k, hk⟩ := mem_node h
      exact ⟨k, .inr (.inl hk)⟩
    · obtain ⟨k, hk⟩ := mem_node h
      exact ⟨k, .inr (.inr hk)⟩
theorem node_size : ∀ {f : Fo} {i : Nat} {k : Fo}, f.Node i k → k.size < f.size
  | nil, _, _, h => h.elim
  | cons c ks r, i, k, h => by
    unfold size at *
    simp only [ids, List.length_cons, List.length_append]
    rcases h with ⟨_, rfl⟩ | h | h
    · omega
    · have := node_size h
      unfold size at this
      omega
    · have := node_size h
      unfold size at this
      omega
/-- the letters of a forest's roots, read one by one with their texts -/
theorem flat_roots (g : Nat → Nat) (tx : Nat → List Nat) : ∀ k : Fo, (∀ j k', k.Node j k' → tx j = g j :: wrap (k'.map g).flat) → (k.roots.map tx).flatten = (k.map g).flat
  | nil, _ => rfl
  | cons c ks r, h => by
    have h1 := h c ks (.inl ⟨rfl, rfl⟩)
    have ih := flat_roots g tx r fun j k' hn => h j k' (.inr (.inr hn))
    simp only [roots, List.map_cons, List.flatten_cons, map, flat, ih, h1]
    rfl

theorem deeper {t : Fo} (P : ∀ i k, t.Node i k → ∀ j ∈ k.roots, i < j) : ∀ (k : Fo) (b : Nat), (∀ i k', k.Node i k' → t.Node i k') → (∀ j ∈ k.roots, b < j) → ∀ j k', k.Node j k' → b < j
  | nil, _, _, _, _, _, h => h.elim
  | cons c ks r, b, hn, hb, j, k', h => by
    have hc : b < c := hb c (by simp [roots])
    rcases h with ⟨rfl, rfl⟩ | h | h
    · exact hc
    · have := deeper P ks c (fun i k2 h2 => hn i k2 (.inr (.inl h2))) (P c ks (hn c ks (.inl ⟨rfl, rfl⟩))) j k' h
      omega
    · exact deeper P r b (fun i k2 h2 => hn i k2 (.inr (.inr h2))) (fun j hj => hb j (by simp [roots, hj])) j k' h
theorem root_node : ∀ {k : Fo} {j : Nat}, j ∈ k.roots → ∃ k', k.Node j k'
  | nil, _, h => by simp [roots] at h
  | cons c ks r, j, h => by
    simp only [roots, List.mem_cons] at h
    rcases h with rfl | h
    · exact ⟨ks, .inl ⟨rfl, rfl⟩⟩
    · obtain ⟨k', hk⟩ := root_node h
      exact ⟨k', .inr (.inr hk)⟩
theorem roots_nil : ∀ {k : Fo}, k.roots = [] → k = nil
  | nil, _ => rfl
  | cons c ks r, h => by simp [roots] at h
/-! a leaf is put in -/
def insAt (n : Nat) : Fo → Nat → Fo
  | f, 0 => cons n nil f
  | nil, _ + 1 => cons n nil nil
  | cons c k r, s + 1 => cons c k (insAt n r s)
def ins (a s n : Nat) : Fo → Fo
  | nil => nil
  | cons c k r => cons c (if c = a then insAt n (ins a s n k) s else ins a s n k) (ins a s n r)
theorem insAt_roots (n : Nat) : ∀ (f : Fo) (s : Nat), s ≤ f.width → (insAt n f s).roots = f.roots.take s ++ n :: f.roots.drop s
  | f, 0, _ => by simp [insAt, roots]
  | nil, s + 1, h => by simp [width, roots] at h
  | cons c k r, s + 1, h => by
    have h' : s ≤ r.width := by
      unfold width at h ⊢
      simp only [roots, List.length_cons] at h
      omega
    simp [insAt, roots, insAt_roots n r s h']
theorem ins_roots (a s n : Nat) : ∀ f : Fo, (ins a s n f).roots = f.roots
  | nil => rfl
  | cons c k r => by simp [ins, roots, ins_roots a s n r]
theorem insAt_count (n id : Nat) : ∀ (f : Fo) (s : Nat), (insAt n f s).ids.count id = f.ids.count id + if id = n then 1 else 0
  | f, 0 => by
    simp only [insAt, ids, List.nil_append, List.count_cons]
    by_cases h : n = id
    · simp [h]
    · simp [h, Ne.symm h]
  | nil, s + 1 => by
    simp only [insAt, ids, List.nil_append, List.count_cons]
    by_cases h : n = id
    · simp [h]
    · simp [h, Ne.symm h]
  | cons c k r, s + 1 => by
    have ih := insAt_count n id r s
    simp only [insAt, ids, List.count_cons, List.count_append, ih]
    omega
theorem ins_count (a s n id : Nat) : ∀ f : Fo, (ins a s n f).ids.count id = f.ids.count id + if id = n then f.ids.count a else 0
  | nil => by simp [ins, ids]
  | cons c k r => by
    have h1 := ins_count a s n id k
    have h2 := ins_count a s n id r
    by_cases hc : c = a
    · simp only [ins, ids, if_pos hc, List.count_cons, List.count_append, insAt_count, h1, h2]
      have : (c == a) = true := by simpa using hc
      simp only [this, if_pos]
      split <;> split <;> omega
    · simp only [ins, ids, if_neg hc, List.count_cons, List.count_append, h1, h2]
      have : (c == a) = false := by simpa using hc
      simp only [this]
      split <;> split <;> simp <;> omega
theorem insAt_len (n : Nat) : ∀ (f : Fo) (s : Nat), (insAt n f s).ids.length = f.ids.length + 1
  | f, 0 => by simp [insAt, ids]
  | nil, s + 1 => by simp [insAt, ids]
  | cons c k r, s + 1 => by
    have ih := insAt_len n r s
    simp only [insAt, ids, List.length_cons, List.length_append, ih]
    omega
theorem ins_len (a s n : Nat) : ∀ f : Fo, (ins a s n f).ids.length = f.ids.length + f.ids.count a
  | nil => by simp [ins, ids]
  | cons c k r => by
    have h1 := ins_len a s n k
    have h2 := ins_len a s n r
    by_cases hc : c = a
    · have : (c == a) = true := by simpa using hc
      simp only [ins, ids, if_pos hc, List.length_cons, List.length_append, List.count_cons, List.count_append, insAt_len, h1, h2, this, if_pos]
      omega
    · have : (c == a) = false := by simpa using hc
      simp only [ins, ids, if_neg hc, List.length_cons, List.length_append, List.count_cons, List.count_append, h1, h2, this]
      simp
      omega
theorem insAt_node (n : Nat) : ∀ {f : Fo} {s id : Nat} {k' : Fo}, (insAt n f s).Node id k' → (id = n ∧ k' = nil) ∨ f.Node id k'
  | f, 0, id, k', h => by
    rw [insAt] at h
    rcases h with ⟨rfl, rfl⟩ | h | h
    · exact .inl ⟨rfl, rfl⟩
    · exact h.elim
    · exact .inr h
  | nil, s + 1, id, k', h => by
    rw [insAt] at h
    rcases h with ⟨rfl, rfl⟩ | h | h
    · exact .inl ⟨rfl, rfl⟩
    · exact h.elim
    · exact h.elim
  | cons c k r, s + 1, id, k', h => by
    rw [insAt] at h
    rcases h with ⟨rfl, rfl⟩ | h | h
    · exact .inr (.inl ⟨rfl, rfl⟩)
    · exact .inr (.inr (.inl h))
    · rcases insAt_node n h with h | h
      · exact .inl h
      · exact .inr (.inr (.inr h))
theorem ins_node (a s n : Nat) : ∀ {f : Fo} {id : Nat} {k' : Fo}, (ins a s n f).Node id k' → (id = n ∧ k' = nil) ∨ ∃ k, f.Node id k ∧ k' = if id = a then insAt n (ins a s n k) s else ins a s n k
  | nil, _, _, h => h.elim
  | cons c k r, id, k', h => by
    rcases h with ⟨rfl, rfl⟩ | h | h
    · exact .inr ⟨k, .inl ⟨rfl, rfl⟩, rfl⟩
    · have h2 : (id = n ∧ k' = nil) ∨ (ins a s n k).Node id k' := by
        by_cases hc : c = a
        · rw [if_pos hc] at h
          exact insAt_node n h
        · rw [if_neg hc] at h
          exact .inr h
      rcases h2 with h2 | h2
      · exact .inl h2
      · rcases ins_node a s n h2 with h3 | ⟨k2, h3, h4⟩
        · exact .inl h3
        · exact .inr ⟨k2, .inr (.inl h3), h4⟩
    · rcases ins_node a s n h with h3 | ⟨k2, h3, h4⟩
      · exact .inl h3
      · exact .inr ⟨k2, .inr (.inr h3), h4⟩
theorem K3_of : ∀ {f : Fo}, (∀ i k, f.Node i k → k.width ≤ 3) → f.K3
  | nil, _ => trivial
  | cons c k r, h => ⟨h c k (.inl ⟨rfl, rfl⟩), K3_of fun i k' hn => h i k' (.inr (.inl hn)), K3_of fun i k' hn => h i k' (.inr (.inr hn))⟩
end Fo

/-- the tree t, its places numbered, is what the rows say -/
structure Grown (t : Fo) (n : Nat) (bl : List (List Nat)) : Prop where
  len : bl.length = n
  rows : ∀ i k, t.Node i k → i < n ∧ bl[i]? = some k.roots ∧ (∀ j ∈ k.roots, i < j) ∧ k.width ≤ 3
  count : ∀ i, t.ids.count i = if i < n then 1 else 0
  size : t.size = n
  root : ∃ k, t = .cons 0 k .nil
theorem Grown.there {t : Fo} {n : Nat} {bl : List (List Nat)} (g : Grown t n bl) {i : Nat} (h : i < n) : ∃ k, t.Node i k := by
  have hc := g.count i
  rw [if_pos h] at hc
  exact Fo.mem_node (List.count_pos_iff.mp (by omega))
theorem grown_one : Grown (.cons 0 .nil .nil) 1 [[]] where
  len := rfl
  rows := by
    rintro i k (⟨rfl, rfl⟩ | h | h)
    · exact ⟨by omega, rfl, (fun j h => by simp [Fo.roots] at h), by simp [Fo.width, Fo.roots]⟩
    · exact h.elim
    · exact h.elim
  count := fun i => by
    by_cases h : i = 0
    · subst h; rfl
    · simp [Fo.ids, List.count_cons, h]
      omega
  size := rfl
  root := ⟨_, rfl⟩
theorem Grown.ins {t : Fo} {n : Nat} {bl : List (List Nat)} (g : Grown t n bl) {a s : Nat} {row : List Nat} (ha : bl[a]? = some row) (hl : row.length < 3) (hs : s ≤ row.length) :
    Grown (t.ins a s n) (n + 1) (bl.set a (row.take s ++ n :: row.drop s) ++ [[]]) where
  len := by simp [g.len]
  rows := by
    have han : a < n := by
      have := (List.getElem?_eq_some_iff.mp ha).1
      rw [g.len] at this
      exact this
    intro i k' h
    rcases Fo.ins_node a s n h with ⟨rfl, rfl⟩ | ⟨k, hk, rfl⟩
    · refine ⟨by omega, ?_, (fun j h => by simp [Fo.roots] at h), by simp [Fo.width, Fo.roots]⟩
      rw [List.getElem?_append_right (by simp [g.len])]
      simp [g.len, Fo.roots]
    · obtain ⟨h1, h2, h3, h4⟩ := g.rows i k hk
      refine ⟨by omega, ?_⟩
      rw [List.getElem?_append_left (by simp [g.len]; exact h1)]
      by_cases hi : i = a
      · subst hi
        rw [ha] at h2
        have er : row = k.roots := Option.some.inj h2
        have hw : s ≤ (t.ins i s n).width ∨ True := .inr trivial
        have hw2 : s ≤ (Fo.ins i s n k).width := by
          unfold Fo.width
          rw [Fo.ins_roots, ← er]
          exact hs
        rw [if_pos rfl, List.getElem?_set_self (by rw [g.len]; exact h1), Fo.insAt_roots _ _ _ hw2, Fo.ins_roots, er]
        refine ⟨rfl, fun j hj => ?_, ?_⟩
        · simp only [List.mem_append, List.mem_cons] at hj
          rcases hj with hj | rfl | hj
          · exact h3 j (List.mem_of_mem_take hj)
          · omega
          · exact h3 j (List.mem_of_mem_drop hj)
        · unfold Fo.width
          rw [Fo.insAt_roots _ _ _ hw2, Fo.ins_roots, ← er]
          simp
          omega
      · rw [if_neg hi, List.getElem?_set_ne (Ne.symm hi), Fo.ins_roots]
        refine ⟨h2, h3, ?_⟩
        unfold Fo.width
        rw [Fo.ins_roots]
        exact h4
  count := fun i => by
    have han : a < n := by
      have := (List.getElem?_eq_some_iff.mp ha).1
      rw [g.len] at this
      exact this
    rw [Fo.ins_count, g.count, g.count, if_pos han]
    by_cases h : i = n
    · subst h
      simp
    · rw [if_neg h]
      by_cases h1 : i < n
      · rw [if_pos h1, if_pos (by omega)]
      · rw [if_neg h1, if_neg (by omega)]
  size := by
    have han : a < n := by
      have := (List.getElem?_eq_some_iff.mp ha).1
      rw [g.len] at this
      exact this
    unfold Fo.size
    rw [Fo.ins_len, g.count, if_pos han]
    have := g.size
    unfold Fo.size at this
    omega
  root := by
    obtain ⟨k, rfl⟩ := g.root
    exact ⟨_, rfl⟩
end TY

/-! views of pairs; tables; clashes -/
namespace TY
open PySem PyProof.Rows PySem.Spec L2

abbrev PT := List Nat × List Nat
abbrev EN := List Nat × Nat
/-- the view at a place -/
def view (w : List Nat) (a n : Nat) : List Nat := (w.take (a + 1)).drop (a + 1 - n)
theorem view_len (w : List Nat) (a n : Nat) : (view w a n).length ≤ w.length := by
  unfold view
  rw [List.length_drop, List.length_take]
  omega
def entOf (p : PT) (n a : Nat) : EN := (view p.1 a n, p.2.getD a 0)
def entsF (p : PT) (n a : Nat) : List EN := (List.range' a (p.1.length - a)).map (entOf p n)
def entsT (p : PT) (n a : Nat) : List EN := (List.range' 0 a).map (entOf p n)
def ents (n : Nat) : List PT → List EN
  | [] => []
  | p :: r => entsF p n 0 ++ ents n r
theorem ents_app (n : Nat) : ∀ (P R : List PT), ents n (P ++ R) = ents n P ++ ents n R
  | [], R => rfl
  | p :: P, R => by rw [List.cons_append, ents, ents, ents_app n P R, List.append_assoc]
theorem entsF_cons {p : PT} {n a : Nat} (h : a < p.1.length) : entsF p n a = entOf p n a :: entsF p n (a + 1) := by
  unfold entsF
  rw [show p.1.length - a = (p.1.length - (a + 1)) + 1 by omega, List.range'_succ, List.map_cons]
theorem entsF_nil {p : PT} {n a : Nat} (h : p.1.length ≤ a) : entsF p n a = [] := by
  unfold entsF
  rw [show p.1.length - a = 0 by omega]
  rfl
theorem entsT_snoc (p : PT) (n a : Nat) : entsT p n (a + 1) = entsT p n a ++ [entOf p n a] := by
  unfold entsT
  rw [List.range'_concat, List.map_append]
  simp
theorem entsT_all (p : PT) (n : Nat) : entsT p n p.1.length = entsF p n 0 := rfl
/-- what is told of a view -/
def look (es : List EN) (v : List Nat) : Option Nat := es.foldl (fun o p => if p.1 = v then some p.2 else o) none
theorem look_snoc (es : List EN) (p : EN) (v : List Nat) : look (es ++ [p]) v = if p.1 = v then some p.2 else look es v := by simp [look]
def tabK (es : List EN) : List (Key × V) := es.foldl (fun t p => putK t (.inr (st p.1)) (S [p.2])) []
theorem tabK_snoc (es : List EN) (p : EN) : tabK (es ++ [p]) = putK (tabK es) (.inr (st p.1)) (S [p.2]) := by simp [tabK]
theorem rec_end {α : Type} {P : List α → Prop} (h0 : P []) (hs : ∀ l x, P l → P (l ++ [x])) (l : List α) : P l := by
  have h : ∀ n, ∀ l : List α, l.length = n → P l := fun n => by
    induction n with
    | zero => intro l hl; rw [List.length_eq_zero_iff.mp hl]; exact h0
    | succ n ih =>
      intro l hl
      have hne : l ≠ [] := fun e => by rw [e] at hl; cases hl
      rw [← List.dropLast_concat_getLast hne]
      exact hs _ _ (ih _ (by rw [List.length_dropLast]; omega))
  exact h _ l rfl
theorem tabK_look (es : List EN) (v : List Nat) : valV (tabK es) (.inr (st v)) = (look es v).map fun s => S [s] := by
  refine rec_end (P := fun es => valV (tabK es) (.inr (st v)) = (look es v).map fun s => S [s]) rfl (fun l x ih => ?_) es
  rw [tabK_snoc, valV_put, look_snoc]
  by_cases h : x.1 = v
  · rw [if_pos h, if_pos (by rw [h])]
    rfl
  · rw [if_neg h, if_neg (fun e => h (st_inj (Sum.inr.inj e)).symm)]
    exact ih
theorem tabK_len (es : List EN) : (tabK es).length ≤ es.length := by
  refine rec_end (P := fun es => (tabK es).length ≤ es.length) (Nat.le_refl _) (fun l x ih => ?_) es
  rw [tabK_snoc, List.length_append]
  have := length_putK (tabK l) (.inr (st x.1)) (S [x.2])
  exact Nat.le_trans this (Nat.add_le_add_right ih 1)
theorem look_mem {es : List EN} {v : List Nat} {s : Nat} : look es v = some s → (v, s) ∈ es := by
  refine rec_end (P := fun es => look es v = some s → (v, s) ∈ es) (fun h => by cases h) (fun l x ih h => ?_) es
  rw [look_snoc] at h
  by_cases e : x.1 = v
  · rw [if_pos e] at h
    rw [List.mem_append, List.mem_singleton]
    refine .inr ?_
    rw [← e, ← Option.some.inj h]
  · rw [if_neg e] at h
    exact List.mem_append_left _ (ih h)
/-- a clash further on -/
def clashGo : List EN → List EN → Bool
  | _, [] => false
  | acc, p :: r => (match look acc p.1 with
    | some s => decide (s ≠ p.2)
    | none => false) || clashGo (acc ++ [p]) r
/-- one sign for each view -/
def Fun1 (es : List EN) : Prop := ∀ p ∈ es, look es p.1 = some p.2
theorem fun_of_clash : ∀ (r acc : List EN), Fun1 acc → clashGo acc r = false → Fun1 (acc ++ r)
  | [], acc, h, _ => by rw [List.append_nil]; exact h
  | p :: r, acc, h, hc => by
    rw [clashGo, Bool.or_eq_false_iff] at hc
    have h2 : Fun1 (acc ++ [p]) := fun q hq => by
      rw [look_snoc]
      by_cases e : p.1 = q.1
      · rw [if_pos e]
        rcases List.mem_append.mp hq with m | m
        · have h3 := h q m
          rw [← e] at h3
          have h1 := hc.1
          rw [h3] at h1
          have h1 : ¬ q.2 ≠ p.2 := of_decide_eq_false h1
          rw [Decidable.not_not.mp h1]
        · rw [List.mem_singleton.mp m]
      · rw [if_neg e]
        rcases List.mem_append.mp hq with m | m
        · exact h q m
        · exact absurd (by rw [List.mem_singleton.mp m]) e
    have := fun_of_clash r (acc ++ [p]) h2 hc.2
    (rw [List.append_assoc] at this)
    exact this
/-- the image by a table -/
def imgN (es : List EN) (n : Nat) (w : List Nat) : Nat → Nat → List Nat → Option (List Nat)
  | 0, _, acc => some acc
  | k + 1, a, acc => match look es (view w a n) with
    | none => none
    | some s => imgN es n w k (a + 1) (acc ++ [s])
def image (es : List EN) (n : Nat) (w : List Nat) : Option (List Nat) := imgN es n w w.length 0 []
theorem imgN_len {es : List EN} {n : Nat} {w : List Nat} : ∀ (k a : Nat) (acc l : List Nat), imgN es n w k a acc = some l → l.length = acc.length + k
  | 0, _, acc, l, h => by cases h; rfl
  | k + 1, a, acc, l, h => by
    rw [imgN] at h
    split at h
    · cases h
    · have := imgN_len k (a + 1) _ l h
      rw [this, List.length_append, List.length_singleton]
      omega
theorem imgN_pair {es : List EN} {n : Nat} {p : PT} (hl : p.1.length = p.2.length) (he : ∀ a, a < p.1.length → look es (view p.1 a n) = some (p.2.getD a 0)) : ∀ (k a : Nat), a + k = p.1.length → imgN es n p.1 k a (p.2.take a) = some p.2
  | 0, a, h => by
    rw [imgN, List.take_of_length_le (by omega)]
  | k + 1, a, h => by
    rw [imgN, he a (by omega)]
    dsimp only
    have : p.2.take a ++ [p.2.getD a 0] = p.2.take (a + 1) := by
      rw [List.take_add_one, List.getD_eq_getElem?_getD, List.getElem?_eq_getElem (by omega)]
      rfl
    rw [this]
    exact imgN_pair hl he k (a + 1) (by omega)
theorem mem_ents {n : Nat} : ∀ {P : List PT} {p : PT} {a : Nat}, p ∈ P → a < p.1.length → entOf p n a ∈ ents n P
  | q :: P, p, a, h, ha => by
    rw [ents, List.mem_append]
    (rcases List.mem_cons.mp h with rfl | h)
    · refine .inl ?_
      unfold entsF
      exact List.mem_map.mpr ⟨a, by rw [List.mem_range'_1]; omega, rfl⟩
    · exact .inr (mem_ents h ha)
theorem image_pair {n : Nat} {P : List PT} {p : PT} (hp : p ∈ P) (hl : p.1.length = p.2.length) (hf : Fun1 (ents n P)) : image (ents n P) n p.1 = some p.2 :=
  imgN_pair hl (fun a ha => hf _ (mem_ents hp ha)) p.1.length 0 (by omega)
/-! what is wrong with pairs -/
def bwGo (lt : List Nat) : Nat → List Nat → Option Nat
  | _, [] => none
  | i, c :: r => if c ∈ lt then bwGo lt (i + 1) r else some i
inductive Bad where
  | word (t : List Nat) (i : Nat)
  | text (k : Nat)
def pGo (lt im : List Nat) : Nat → List PT → Option Bad
  | _, [] => none
  | k, p :: r => match bwGo lt 0 p.1 with
    | some i => some (.word p.1 i)
    | none => match bwGo im 0 p.2 with
      | some i => some (.word p.2 i)
      | none => if p.1.length ≠ p.2.length then some (.text k) else pGo lt im (k + 1) r
theorem pGo_none {lt im : List Nat} : ∀ {P : List PT} {k : Nat}, pGo lt im k P = none → ∀ p ∈ P, bwGo lt 0 p.1 = none ∧ p.1.length = p.2.length
  | q :: P, k, h, p, hp => by
    rw [pGo] at h
    cases e1 : bwGo lt 0 q.1 with
    | some i => rw [e1] at h; cases h
    | none =>
      rw [e1] at h
      dsimp only at h
      cases e2 : bwGo im 0 q.2 with
      | some i => rw [e2] at h; cases h
      | none =>
        rw [e2] at h
        dsimp only at h
        by_cases e3 : q.1.length ≠ q.2.length
        · rw [if_pos e3] at h; cases h
        · rw [if_neg e3] at h
          (rcases List.mem_cons.mp hp with rfl | hp)
          · exact ⟨e1, Decidable.not_not.mp e3⟩
          · exact pGo_none h p hp
theorem bwGo_ok {lt : List Nat} : ∀ {l : List Nat} {i : Nat}, (∀ c ∈ l, c ∈ lt) → bwGo lt i l = none
  | [], _, _ => rfl
  | c :: r, i, h => by
    rw [bwGo, if_pos (h c List.mem_cons_self)]
    exact bwGo_ok fun x hx => h x (List.mem_cons_of_mem _ hx)
end TY

namespace TY
open PySem PyProof.Rows PySem.Spec L2 L2H
theorem lit_0 : (Str.ofString "a character is not one of the letters") = st [97, 32, 99, 104, 97, 114, 97, 99, 116, 101, 114, 32, 105, 115, 32, 110, 111, 116, 32, 111, 110, 101, 32, 111, 102, 32, 116, 104, 101, 32, 108, 101, 116, 116, 101, 114, 115] := by decide +kernel
theorem lit_1 : (Str.ofString "the line cannot be read") = st [116, 104, 101, 32, 108, 105, 110, 101, 32, 99, 97, 110, 110, 111, 116, 32, 98, 101, 32, 114, 101, 97, 100] := by decide +kernel
theorem lit_2 : (Str.ofString "") = st [] := by decide +kernel
theorem lit_3 : (Str.ofString "there must be 1 to 4 letters") = st [116, 104, 101, 114, 101, 32, 109, 117, 115, 116, 32, 98, 101, 32, 49, 32, 116, 111, 32, 52, 32, 108, 101, 116, 116, 101, 114, 115] := by decide +kernel
theorem lit_4 : (Str.ofString "the letters must be small and ascending") = st [116, 104, 101, 32, 108, 101, 116, 116, 101, 114, 115, 32, 109, 117, 115, 116, 32, 98, 101, 32, 115, 109, 97, 108, 108, 32, 97, 110, 100, 32, 97, 115, 99, 101, 110, 100, 105, 110, 103] := by decide +kernel
theorem lit_5 : (Str.ofString "fits") = st [102, 105, 116, 115] := by decide +kernel
theorem lit_6 : (Str.ofString "clash") = st [99, 108, 97, 115, 104] := by decide +kernel
theorem lit_7 : (Str.ofString "?") = st [63] := by decide +kernel
theorem lit_8 : (Str.ofString "A") = st [65] := by decide +kernel
theorem lit_9 : (Str.ofString " ") = st [32] := by decide +kernel
theorem lit_10 : (Str.ofString "0") = st [48] := by decide +kernel
theorem lit_11 : (Str.ofString "text") = st [116, 101, 120, 116] := by decide +kernel
theorem lit_12 : (Str.ofString "word") = st [119, 111, 114, 100] := by decide +kernel
theorem lit_13 : (Str.ofString "ab") = st [97, 98] := by decide +kernel
theorem lit_14 : (Str.ofString "a") = st [97] := by decide +kernel
theorem lit_15 : (Str.ofString "abc") = st [97, 98, 99] := by decide +kernel
theorem lit_16 : (Str.ofString "bd") = st [98, 100] := by decide +kernel
theorem lit_17 : (Str.ofString "acz") = st [97, 99, 122] := by decide +kernel
theorem lit_18 : (Str.ofString "abcd") = st [97, 98, 99, 100] := by decide +kernel
theorem lit_19 : (Str.ofString "xy") = st [120, 121] := by decide +kernel
theorem lit_20 : (Str.ofString "pqrs") = st [112, 113, 114, 115] := by decide +kernel
theorem lit_21 : (Str.ofString "z") = st [122] := by decide +kernel
theorem lit_22 : (Str.ofString "abcdefghijklmnopqrstuvwxyz") = st [97, 98, 99, 100, 101, 102, 103, 104, 105, 106, 107, 108, 109, 110, 111, 112, 113, 114, 115, 116, 117, 118, 119, 120, 121, 122] := by decide +kernel
local macro_rules | `(tactic| walk_at "tylit") => `(tactic| first | exact lit_0 | exact lit_1 | exact lit_2 | exact lit_3 | exact lit_4 | exact lit_5 | exact lit_6 | exact lit_7 | exact lit_8 | exact lit_9 | exact lit_10 | exact lit_11 | exact lit_12 | exact lit_13 | exact lit_14 | exact lit_15 | exact lit_16 | exact lit_17 | exact lit_18 | exact lit_19 | exact lit_20 | exact lit_21 | exact lit_22)
/-! the word: one step; all steps -/
local macro_rules | `(tactic| walk_at "tysq") => `(tactic| first | assumption | exact Or.inl (Or.inl (by assumption)) | exact Or.inl (Or.inl upd_same))
local macro_rules | `(tactic| walk_at "tysqT") => `(tactic| first | assumption | exact Or.inl (Or.inl (by assumption)) | exact Or.inl (Or.inl upd_same))
local macro_rules | `(tactic| walk_at "tyhp") => `(tactic| first | assumption | exact upd_same)
local macro_rules | `(tactic| walk_at "tyc") => `(tactic| first | decide | assumption | omega | (simp only [List.length_map, List.length_append, List.length_cons, List.length_nil]; omega) | exact Or.inl ⟨by omega, by omega⟩ | exact ⟨by omega, by omega⟩ | exact ⟨by decide, by decide⟩)
local macro_rules | `(tactic| walk_at "sx1") => `(tactic| first
  | with_reducible refine x_seq ?_ | with_reducible refine x_next ?_ | with_reducible refine x_Dnx ?_ | with_reducible refine x_Drt ?_
  | with_reducible refine x_asg ?_ | ((with_reducible refine x_gname ?_); try dsimp only [List.set_cons_zero, List.set_cons_succ]) | with_reducible refine x_drop ?_ | with_reducible refine x_ret ?_
  | with_reducible refine x_ifS ?_ | with_reducible refine x_ifE ?_ | ((with_reducible apply x_var); (first | rfl | assumption)) | ((with_reducible apply x_cStr); with_reducible walk_at "tylit") | with_reducible refine x_c ?_
  | with_reducible refine l_addS ?_ | with_reducible refine l_inSign ?_ | with_reducible refine l_niSign ?_ | with_reducible refine l_repS ?_ | with_reducible refine x_then ?_ | with_reducible refine x_iTup ?_ | ((with_reducible apply x_gTup); (walk_at "tysqT"); rfl) | with_reducible refine x_gC ?_ | with_reducible refine x_gN ?_ | with_reducible refine x_nget ?_ | with_reducible refine x_nin ?_ | with_reducible refine x_nput ?_ | with_reducible refine x_nget2 ?_ | with_reducible refine x_inO ?_ | with_reducible refine x_callOA ?_ | with_reducible refine x_setd ?_ | with_reducible refine l_dictD ?_ | with_reducible refine x_din ?_ | with_reducible refine x_dnotin ?_ | with_reducible refine l_repA ?_ | with_reducible refine l_leS ?_ | with_reducible refine l_isN ?_ | with_reducible refine l_notN ?_
  | with_reducible refine x_op ?_ | with_reducible refine x_un ?_ | with_reducible refine x_I0 ?_ | ((with_reducible apply x_I); walk_at "tyc") | with_reducible refine x_U ?_
  | with_reducible refine x_eqI ?_ | with_reducible refine x_neI ?_ | with_reducible refine x_eqOne ?_ | with_reducible refine x_eqSt ?_ | with_reducible refine x_neSt ?_ | with_reducible refine x_eqS ?_ | with_reducible refine x_neS ?_
  | with_reducible refine x_test ?_ | with_reducible refine x_tB ?_ | with_reducible refine x_bl ?_ | with_reducible refine x_bl2 ?_
  | with_reducible refine x_yes ?_ | with_reducible refine x_and ?_ | with_reducible refine x_or ?_ | with_reducible refine x_not ?_ | with_reducible refine x_andV ?_ | with_reducible refine x_orV ?_ | with_reducible refine x_notV ?_
  | with_reducible refine x_nil ?_ | with_reducible refine x_cons ?_ | with_reducible refine l_len ?_ | with_reducible refine l_lenS ?_ | with_reducible refine l_int1 ?_ | with_reducible refine l_abs ?_ | with_reducible refine l_max2 ?_ | with_reducible refine l_min2 ?_ | with_reducible refine l_list ?_ | with_reducible refine l_listD ?_ | with_reducible refine l_strI ?_ | with_reducible refine x_cb ?_ | with_reducible refine x_call ?_ | with_reducible refine x_callS ?_ | with_reducible refine x_callE ?_
  | ((with_reducible apply x_aug); (first | rfl | assumption)) | with_reducible refine x_ipI ?_ | with_reducible refine x_sl ?_ | with_reducible refine x_nopart ?_ | with_reducible refine x_part ?_ | with_reducible refine x_int ?_
  | with_reducible refine x_gsub ?_ | with_reducible refine x_bm ?_ | with_reducible refine x_bm0 ?_ | with_reducible refine l_upper ?_ | with_reducible refine l_join ?_ | with_reducible refine l_index ?_ | with_reducible refine x_m0 ?_ | with_reducible refine x_m1 ?_ | with_reducible refine x_strA ?_ | with_reducible refine x_augS ?_
  | ((with_reducible apply x_tyL); walk_at "tysq")
  | ((with_reducible apply x_addS); walk_at "tyc") | with_reducible refine x_inSign ?_ | with_reducible refine x_niSign ?_ | with_reducible refine x_leS ?_ | with_reducible refine x_isN ?_ | with_reducible refine x_notN ?_ | with_reducible refine x_max2 ?_ | with_reducible refine x_min2 ?_
  | ((with_reducible apply x_lenS); walk_at "tyc") | ((with_reducible apply x_lenL); walk_at "tysq")
  | with_reducible refine x_int1 ?_ | with_reducible refine x_abs ?_
  | ((with_reducible apply x_ixL); walk_at "tysq"; rfl) | ((with_reducible apply x_setL); walk_at "tyhp"; rfl)
  | with_reducible refine x_lc ?_ | with_reducible refine x_for ?_ | with_reducible refine x_iStr ?_ | with_reducible refine x_qStr ?_ | with_reducible refine x_iLst ?_ | ((with_reducible apply x_qLst); walk_at "tysq")
  | with_reducible refine x_iRng1 ?_ | with_reducible refine x_iRng2 ?_ | ((with_reducible apply x_qRng1); walk_at "tyc") | ((with_reducible apply x_qRng2); walk_at "tyc") | with_reducible refine x_iEnS ?_ | with_reducible refine x_qEnS ?_
  | ((with_reducible apply x_slS); walk_at "tyc")
  | with_reducible refine x_lst ?_ | with_reducible refine x_tup ?_
  | with_reducible refine x_listZip ?_ | with_reducible refine x_iRev ?_ | ((with_reducible apply x_qRev); walk_at "tysq") | with_reducible refine x_dget ?_ | with_reducible refine x_dput ?_ | with_reducible refine x_tern ?_ | with_reducible refine x_replA ?_ | with_reducible refine x_replC ?_ | with_reducible refine x_sl3 ?_ | with_reducible refine x_iEnL ?_ | with_reducible refine x_lc2 ?_ | with_reducible refine x_ckw ?_ | with_reducible refine x_eqB ?_ | with_reducible refine x_fld ?_ | with_reducible refine x_sfld ?_ | with_reducible refine x_makeS ?_ | with_reducible refine x_methA ?_ | with_reducible refine x_fmt ?_ | with_reducible refine x_js0 ?_ | with_reducible refine x_js ?_ | ((with_reducible apply x_qJs); walk_at "tyc") | with_reducible refine x_jsE ?_ | with_reducible refine x_mkO ?_ | ((with_reducible apply x_ixT); walk_at "tysqT"; rfl)
  | with_reducible refine x_iteT ?_ | with_reducible refine x_iteF ?_ | with_reducible refine x_iteNT' ?_ | with_reducible refine x_iteNF' ?_)
local macro_rules | `(tactic| walk_at "sx") => `(tactic| repeat walk_at "sx1")
local macro_rules | `(tactic| walk_at "sxi") => `(tactic| repeat (first
  | with_reducible refine x_seq ?_ | with_reducible refine x_next ?_ | with_reducible refine x_Dnx ?_ | with_reducible refine x_Drt ?_ | with_reducible refine x_asg ?_ | ((with_reducible refine x_gname ?_); try dsimp only [List.set_cons_zero, List.set_cons_succ]) | with_reducible refine x_drop ?_ | with_reducible refine x_ifS ?_))
local macro_rules | `(tactic| walk_at "sxn") => `(tactic| repeat (first
  | with_reducible refine x_next ?_ | with_reducible refine x_Dnx ?_ | with_reducible refine x_Drt ?_ | with_reducible refine x_asg ?_ | ((with_reducible refine x_gname ?_); try dsimp only [List.set_cons_zero, List.set_cons_succ]) | with_reducible refine x_drop ?_))
/-! the text by places -/
def top (i : Nat) : Stmt := PySem.Challenge.pw_treesfromyes_k87_turner_fits_or_clash.main.body.getD i (.Pass ⟨0, 0, 0, 0⟩)
abbrev s_BadWord___init__ : Stmt := inClass (top 3) 0
abbrev s_BadText___init__ : Stmt := inClass (top 4) 0
abbrev s_check_letters : Stmt := top 8
abbrev s_check_word : Stmt := top 9
abbrev s_view_at : Stmt := top 11
abbrev s_Turner___init__ : Stmt := inClass (top 12) 0
abbrev s_Turner___call__ : Stmt := inClass (top 12) 1
abbrev s_check_pairs : Stmt := top 13
abbrev s_first_clash : Stmt := top 14
abbrev s_fit_turner : Stmt := top 15
abbrev s__law_start : Stmt := top 17
abbrev s__law_next : Stmt := top 18
abbrev s__law_integer : Stmt := top 19
abbrev s__law_word : Stmt := top 20
abbrev s__law_view : Stmt := top 21
abbrev s__law_image : Stmt := top 22
abbrev s__law_table : Stmt := top 23
abbrev s__law_place : Stmt := top 24
abbrev s__law_clash : Stmt := top 25
abbrev s__law_due_image : Stmt := top 26
abbrev s__law_good_turner : Stmt := top 27
abbrev s__law_spoil : Stmt := top 28
abbrev s__law_first_bad : Stmt := top 29
abbrev s__law_refused : Stmt := top 30
abbrev s_law : Stmt := top 31
theorem sc_check_letters : FnScope ["letters", "before", "letter"] ["letters"] (defScope s_check_letters) := ⟨rfl, rfl, rfl, by decide +kernel, rfl, by decide +kernel, by decide +kernel⟩
theorem sc_check_word : FnScope ["letters", "word", "place", "letter"] ["letters", "word"] (defScope s_check_word) := ⟨rfl, rfl, rfl, by decide +kernel, rfl, by decide +kernel, by decide +kernel⟩
theorem sc_view_at : FnScope ["word", "at", "size"] ["word", "at", "size"] (defScope s_view_at) := ⟨rfl, rfl, rfl, by decide +kernel, rfl, by decide +kernel, by decide +kernel⟩
theorem sc_Turner___init__ : FnScope ["self", "letters", "images", "size", "table"] ["self", "letters", "images", "size", "table"] (defScope s_Turner___init__) := ⟨rfl, rfl, rfl, by decide +kernel, rfl, by decide +kernel, by decide +kernel⟩
theorem sc_Turner___call__ : FnScope ["self", "word", "image", "at", "view"] ["self", "word"] (defScope s_Turner___call__) := ⟨rfl, rfl, rfl, by decide +kernel, rfl, by decide +kernel, by decide +kernel⟩
theorem sc_check_pairs : FnScope ["letters", "images", "pairs", "number", "pair"] ["letters", "images", "pairs"] (defScope s_check_pairs) := ⟨rfl, rfl, rfl, by decide +kernel, rfl, by decide +kernel, by decide +kernel⟩
theorem sc_first_clash : FnScope ["pairs", "size", "places", "number", "word", "image", "at", "view", "earlier"] ["pairs", "size"] (defScope s_first_clash) := ⟨rfl, rfl, rfl, by decide +kernel, rfl, by decide +kernel, by decide +kernel⟩
theorem sc_fit_turner : FnScope ["letters", "images", "size", "pairs", "clash", "table", "word", "image", "at"] ["letters", "images", "size", "pairs"] (defScope s_fit_turner) := ⟨rfl, rfl, rfl, by decide +kernel, rfl, by decide +kernel, by decide +kernel⟩
theorem sc__law_start : FnScope ["script", "cells", "cell"] ["script"] (defScope s__law_start) := ⟨rfl, rfl, rfl, by decide +kernel, rfl, by decide +kernel, by decide +kernel⟩
theorem sc__law_next : FnScope ["state", "many", "cells", "cell", "told", "turn", "mixed"] ["state", "many"] (defScope s__law_next) := ⟨rfl, rfl, rfl, by decide +kernel, rfl, by decide +kernel, by decide +kernel⟩
theorem sc__law_integer : FnScope ["actual"] ["actual"] (defScope s__law_integer) := ⟨rfl, rfl, rfl, by decide +kernel, rfl, by decide +kernel, by decide +kernel⟩
theorem sc__law_word : FnScope ["state", "letters", "size", "word", "k"] ["state", "letters", "size"] (defScope s__law_word) := ⟨rfl, rfl, rfl, by decide +kernel, rfl, by decide +kernel, by decide +kernel⟩
theorem sc__law_view : FnScope ["word", "at", "size"] ["word", "at", "size"] (defScope s__law_view) := ⟨rfl, rfl, rfl, by decide +kernel, rfl, by decide +kernel, by decide +kernel⟩
theorem sc__law_image : FnScope ["state", "known", "word", "images", "size", "image", "at", "view"] ["state", "known", "word", "images", "size"] (defScope s__law_image) := ⟨rfl, rfl, rfl, by decide +kernel, rfl, by decide +kernel, by decide +kernel⟩
theorem sc__law_table : FnScope ["pairs", "size", "table", "pair", "at", "view"] ["pairs", "size"] (defScope s__law_table) := ⟨rfl, rfl, rfl, by decide +kernel, rfl, by decide +kernel, by decide +kernel⟩
theorem sc__law_place : FnScope ["pairs", "place"] ["pairs", "place"] (defScope s__law_place) := ⟨rfl, rfl, rfl, by decide +kernel, rfl, by decide +kernel, by decide +kernel⟩
theorem sc__law_clash : FnScope ["pairs", "size", "answer", "one", "two"] ["pairs", "size", "answer"] (defScope s__law_clash) := ⟨rfl, rfl, rfl, by decide +kernel, rfl, by decide +kernel, by decide +kernel⟩
theorem sc__law_due_image : FnScope ["table", "word", "size", "image", "at", "view"] ["table", "word", "size"] (defScope s__law_due_image) := ⟨rfl, rfl, rfl, by decide +kernel, rfl, by decide +kernel, by decide +kernel⟩
theorem sc__law_good_turner : FnScope ["turner", "letters", "images", "size", "table", "pairs", "more", "view", "pair", "word", "due", "told"] ["turner", "letters", "images", "size", "table", "pairs", "more"] (defScope s__law_good_turner) := ⟨rfl, rfl, rfl, by decide +kernel, rfl, by decide +kernel, by decide +kernel⟩
theorem sc__law_spoil : FnScope ["state", "pairs", "letters", "images", "at", "word", "image", "choice", "where", "sign"] ["state", "pairs", "letters", "images"] (defScope s__law_spoil) := ⟨rfl, rfl, rfl, by decide +kernel, rfl, by decide +kernel, by decide +kernel⟩
theorem sc__law_first_bad : FnScope ["pairs", "letters", "images", "k", "side", "at"] ["pairs", "letters", "images"] (defScope s__law_first_bad) := ⟨rfl, rfl, rfl, by decide +kernel, rfl, by decide +kernel, by decide +kernel⟩
theorem sc__law_refused : FnScope ["letters", "images", "size", "pairs", "bad", "e"] ["letters", "images", "size", "pairs", "bad"] (defScope s__law_refused) := ⟨rfl, rfl, rfl, by decide +kernel, rfl, by decide +kernel, by decide +kernel⟩
theorem sc_law : FnScope ["script", "state", "letters", "images", "hidden", "size", "many", "longest", "known", "pairs", "k", "word", "at", "image", "where", "given", "bad", "more", "answer", "table"] ["script"] (defScope s_law) := ⟨rfl, rfl, rfl, by decide +kernel, rfl, by decide +kernel, by decide +kernel⟩
/-! where the defs and classes stand behind the top -/
structure Ad where
  a_BadWord___init__ : Addr
  fd_BadWord___init__ : FuncData
  a_BadText___init__ : Addr
  fd_BadText___init__ : FuncData
  a_check_letters : Addr
  fd_check_letters : FuncData
  a_check_word : Addr
  fd_check_word : FuncData
  a_view_at : Addr
  fd_view_at : FuncData
  a_Turner___init__ : Addr
  fd_Turner___init__ : FuncData
  a_Turner___call__ : Addr
  fd_Turner___call__ : FuncData
  a_check_pairs : Addr
  fd_check_pairs : FuncData
  a_first_clash : Addr
  fd_first_clash : FuncData
  a_fit_turner : Addr
  fd_fit_turner : FuncData
  a__law_start : Addr
  fd__law_start : FuncData
  a__law_next : Addr
  fd__law_next : FuncData
  a__law_integer : Addr
  fd__law_integer : FuncData
  a__law_word : Addr
  fd__law_word : FuncData
  a__law_view : Addr
  fd__law_view : FuncData
  a__law_image : Addr
  fd__law_image : FuncData
  a__law_table : Addr
  fd__law_table : FuncData
  a__law_place : Addr
  fd__law_place : FuncData
  a__law_clash : Addr
  fd__law_clash : FuncData
  a__law_due_image : Addr
  fd__law_due_image : FuncData
  a__law_good_turner : Addr
  fd__law_good_turner : FuncData
  a__law_spoil : Addr
  fd__law_spoil : FuncData
  a__law_first_bad : Addr
  fd__law_first_bad : FuncData
  a__law_refused : Addr
  fd__law_refused : FuncData
  a_law : Addr
  fd_law : FuncData
  c_LanguageError : Addr
  c_BadLetters : Addr
  c_BadWord : Addr
  c_BadText : Addr
  c_Turner : Addr
  cc_BadWord : Addr
  cda_BadWord : Addr
  cc_BadText : Addr
  cda_BadText : Addr
  tk_SMALL : Tok
  tk_MOST_KINDS_OF_LETTERS : Tok
theorem bt_abs : bootBuiltins "abs" = some (.builtin "abs") := by decide +kernel
theorem bt_bool : bootBuiltins "bool" = some (.type "bool") := by decide +kernel
theorem bt_dict : bootBuiltins "dict" = some (.type "dict") := by decide +kernel
theorem bt_enumerate : bootBuiltins "enumerate" = some (.type "enumerate") := by decide +kernel
theorem bt_int : bootBuiltins "int" = some (.type "int") := by decide +kernel
theorem bt_isinstance : bootBuiltins "isinstance" = some (.builtin "isinstance") := by decide +kernel
theorem bt_len : bootBuiltins "len" = some (.builtin "len") := by decide +kernel
theorem bt_list : bootBuiltins "list" = some (.type "list") := by decide +kernel
theorem bt_max : bootBuiltins "max" = some (.builtin "max") := by decide +kernel
theorem bt_range : bootBuiltins "range" = some (.type "range") := by decide +kernel
theorem bt_super : bootBuiltins "super" = some (.type "super") := by decide +kernel
theorem bt_tuple : bootBuiltins "tuple" = some (.type "tuple") := by decide +kernel
/-! what the top has left -/
structure Txt (P : Program) (K : PySem.W.Frag) (mg : Str → Option Value) (A : Ad) : Prop where
  n_abs : mg "abs" = none
  n_bool : mg "bool" = none
  n_dict : mg "dict" = none
  n_enumerate : mg "enumerate" = none
  n_int : mg "int" = none
  n_isinstance : mg "isinstance" = none
  n_len : mg "len" = none
  n_list : mg "list" = none
  n_max : mg "max" = none
  n_range : mg "range" = none
  n_super : mg "super" = none
  n_tuple : mg "tuple" = none
  c_SMALL : mg "SMALL" = some (.str "abcdefghijklmnopqrstuvwxyz" A.tk_SMALL)
  c_MOST_KINDS_OF_LETTERS : mg "MOST_KINDS_OF_LETTERS" = some (.int 4 A.tk_MOST_KINDS_OF_LETTERS)
  g_LanguageError : mg "LanguageError" = some (.ref A.c_LanguageError)
  g_BadLetters : mg "BadLetters" = some (.ref A.c_BadLetters)
  g_BadWord : mg "BadWord" = some (.ref A.c_BadWord)
  g_BadText : mg "BadText" = some (.ref A.c_BadText)
  g_Turner : mg "Turner" = some (.ref A.c_Turner)
  l_BadWord___init__ : ∃ (oc : Value) (od an : Option Addr) (osl : Array (Option Value)) (kV dc pm ct : Value), A.fd_BadWord___init__ = PySem.W.ksFn "__init__" "BadWord.__init__" (defArgs s_BadWord___init__) (defBody s_BadWord___init__) (defScope s_BadWord___init__) .none kV dc pm an (.ref A.cda_BadWord) ct A.cc_BadWord ∧ K.lookup A.a_BadWord___init__ = some ⟨oc, od, .func A.fd_BadWord___init__, osl⟩
  cd_BadWord___init__ : PySem.W.codeIn K (.ref A.cda_BadWord) "BadWord.__init__" = true
  b_BadWord___init__ : Binds K A.fd_BadWord___init__ ["self", "word", "place"] []
  l_BadText___init__ : ∃ (oc : Value) (od an : Option Addr) (osl : Array (Option Value)) (kV dc pm ct : Value), A.fd_BadText___init__ = PySem.W.ksFn "__init__" "BadText.__init__" (defArgs s_BadText___init__) (defBody s_BadText___init__) (defScope s_BadText___init__) .none kV dc pm an (.ref A.cda_BadText) ct A.cc_BadText ∧ K.lookup A.a_BadText___init__ = some ⟨oc, od, .func A.fd_BadText___init__, osl⟩
  cd_BadText___init__ : PySem.W.codeIn K (.ref A.cda_BadText) "BadText.__init__" = true
  b_BadText___init__ : Binds K A.fd_BadText___init__ ["self", "line"] []
  g_check_letters : mg "check_letters" = some (.ref A.a_check_letters)
  F_check_letters : Fun K "check_letters" "check_letters" s_check_letters A.a_check_letters A.fd_check_letters
  b_check_letters : Binds K A.fd_check_letters ["letters"] []
  g_check_word : mg "check_word" = some (.ref A.a_check_word)
  F_check_word : Fun K "check_word" "check_word" s_check_word A.a_check_word A.fd_check_word
  b_check_word : Binds K A.fd_check_word ["letters", "word"] []
  g_view_at : mg "view_at" = some (.ref A.a_view_at)
  F_view_at : Fun K "view_at" "view_at" s_view_at A.a_view_at A.fd_view_at
  b_view_at : Binds K A.fd_view_at ["word", "at", "size"] []
  F_Turner___init__ : Fun K "__init__" "Turner.__init__" s_Turner___init__ A.a_Turner___init__ A.fd_Turner___init__
  b_Turner___init__ : Binds K A.fd_Turner___init__ ["self", "letters", "images", "size", "table"] []
  F_Turner___call__ : Fun K "__call__" "Turner.__call__" s_Turner___call__ A.a_Turner___call__ A.fd_Turner___call__
  b_Turner___call__ : Binds K A.fd_Turner___call__ ["self", "word"] []
  g_check_pairs : mg "check_pairs" = some (.ref A.a_check_pairs)
  F_check_pairs : Fun K "check_pairs" "check_pairs" s_check_pairs A.a_check_pairs A.fd_check_pairs
  b_check_pairs : Binds K A.fd_check_pairs ["letters", "images", "pairs"] []
  g_first_clash : mg "first_clash" = some (.ref A.a_first_clash)
  F_first_clash : Fun K "first_clash" "first_clash" s_first_clash A.a_first_clash A.fd_first_clash
  b_first_clash : Binds K A.fd_first_clash ["pairs", "size"] []
  g_fit_turner : mg "fit_turner" = some (.ref A.a_fit_turner)
  F_fit_turner : Fun K "fit_turner" "fit_turner" s_fit_turner A.a_fit_turner A.fd_fit_turner
  b_fit_turner : Binds K A.fd_fit_turner ["letters", "images", "size", "pairs"] []
  g__law_start : mg "_law_start" = some (.ref A.a__law_start)
  F__law_start : Fun K "_law_start" "_law_start" s__law_start A.a__law_start A.fd__law_start
  b__law_start : Binds K A.fd__law_start ["script"] []
  g__law_next : mg "_law_next" = some (.ref A.a__law_next)
  F__law_next : Fun K "_law_next" "_law_next" s__law_next A.a__law_next A.fd__law_next
  b__law_next : Binds K A.fd__law_next ["state", "many"] []
  g__law_integer : mg "_law_integer" = some (.ref A.a__law_integer)
  F__law_integer : Fun K "_law_integer" "_law_integer" s__law_integer A.a__law_integer A.fd__law_integer
  b__law_integer : Binds K A.fd__law_integer ["actual"] []
  g__law_word : mg "_law_word" = some (.ref A.a__law_word)
  F__law_word : Fun K "_law_word" "_law_word" s__law_word A.a__law_word A.fd__law_word
  b__law_word : Binds K A.fd__law_word ["state", "letters", "size"] []
  g__law_view : mg "_law_view" = some (.ref A.a__law_view)
  F__law_view : Fun K "_law_view" "_law_view" s__law_view A.a__law_view A.fd__law_view
  b__law_view : Binds K A.fd__law_view ["word", "at", "size"] []
  g__law_image : mg "_law_image" = some (.ref A.a__law_image)
  F__law_image : Fun K "_law_image" "_law_image" s__law_image A.a__law_image A.fd__law_image
  b__law_image : Binds K A.fd__law_image ["state", "known", "word", "images", "size"] []
  g__law_table : mg "_law_table" = some (.ref A.a__law_table)
  F__law_table : Fun K "_law_table" "_law_table" s__law_table A.a__law_table A.fd__law_table
  b__law_table : Binds K A.fd__law_table ["pairs", "size"] []
  g__law_place : mg "_law_place" = some (.ref A.a__law_place)
  F__law_place : Fun K "_law_place" "_law_place" s__law_place A.a__law_place A.fd__law_place
  b__law_place : Binds K A.fd__law_place ["pairs", "place"] []
  g__law_clash : mg "_law_clash" = some (.ref A.a__law_clash)
  F__law_clash : Fun K "_law_clash" "_law_clash" s__law_clash A.a__law_clash A.fd__law_clash
  b__law_clash : Binds K A.fd__law_clash ["pairs", "size", "answer"] []
  g__law_due_image : mg "_law_due_image" = some (.ref A.a__law_due_image)
  F__law_due_image : Fun K "_law_due_image" "_law_due_image" s__law_due_image A.a__law_due_image A.fd__law_due_image
  b__law_due_image : Binds K A.fd__law_due_image ["table", "word", "size"] []
  g__law_good_turner : mg "_law_good_turner" = some (.ref A.a__law_good_turner)
  F__law_good_turner : Fun K "_law_good_turner" "_law_good_turner" s__law_good_turner A.a__law_good_turner A.fd__law_good_turner
  b__law_good_turner : Binds K A.fd__law_good_turner ["turner", "letters", "images", "size", "table", "pairs", "more"] []
  g__law_spoil : mg "_law_spoil" = some (.ref A.a__law_spoil)
  F__law_spoil : Fun K "_law_spoil" "_law_spoil" s__law_spoil A.a__law_spoil A.fd__law_spoil
  b__law_spoil : Binds K A.fd__law_spoil ["state", "pairs", "letters", "images"] []
  g__law_first_bad : mg "_law_first_bad" = some (.ref A.a__law_first_bad)
  F__law_first_bad : Fun K "_law_first_bad" "_law_first_bad" s__law_first_bad A.a__law_first_bad A.fd__law_first_bad
  b__law_first_bad : Binds K A.fd__law_first_bad ["pairs", "letters", "images"] []
  g__law_refused : mg "_law_refused" = some (.ref A.a__law_refused)
  F__law_refused : Fun K "_law_refused" "_law_refused" s__law_refused A.a__law_refused A.fd__law_refused
  b__law_refused : Binds K A.fd__law_refused ["letters", "images", "size", "pairs", "bad"] []
  g_law : mg "law" = some (.ref A.a_law)
  F_law : Fun K "law" "law" s_law A.a_law A.fd_law
  b_law : Binds K A.fd_law ["script"] []
  ox_BadWord : OexC K A.c_BadWord
  xi_BadWord : PySem.W.findIn K (.ref A.c_BadWord) "__init__" = some (some (.ref A.a_BadWord___init__))
  xti_BadWord : PySem.W.typeIn K (.ref A.a_BadWord___init__) = some (.type "function")
  su_BadWord : SupC P K mg A.c_BadWord A.cc_BadWord A.cda_BadWord
  no_BadWord_word : PySem.W.findIn K (.ref A.c_BadWord) "word" = some none
  no_BadWord_place : PySem.W.findIn K (.ref A.c_BadWord) "place" = some none
  xf_BadWord : XfC K A.c_BadWord
  ox_BadText : OexC K A.c_BadText
  xi_BadText : PySem.W.findIn K (.ref A.c_BadText) "__init__" = some (some (.ref A.a_BadText___init__))
  xti_BadText : PySem.W.typeIn K (.ref A.a_BadText___init__) = some (.type "function")
  su_BadText : SupC P K mg A.c_BadText A.cc_BadText A.cda_BadText
  no_BadText_line : PySem.W.findIn K (.ref A.c_BadText) "line" = some none
  xf_BadText : XfC K A.c_BadText
  x_BadLetters : PySem.W.excIn K A.c_BadLetters [.type "ValueError", .type "Exception", .type "BaseException", .type "object"] "ValueError.__new__" = true
  k_BadLetters : PySem.W.keepIn K (.ref A.c_BadLetters) = true
  xb_BadLetters : PySem.W.subIn K (.ref A.c_BadLetters) (.type "BaseException") = some true
  xt_BadLetters : PySem.W.typeIn K (.ref A.c_BadLetters) = some (.type "type")
  te_BadLetters_LanguageError : PySem.W.exmOne K (.ref A.c_BadLetters) (.ref A.c_LanguageError) = some true
  ec_BadLetters : ExcC K A.c_BadLetters
  ki_BadLetters_BadText : PySem.W.kitOne K (.ref A.c_BadLetters) (.ref A.c_BadText) = some false
  ki_BadLetters_BadWord : PySem.W.kitOne K (.ref A.c_BadLetters) (.ref A.c_BadWord) = some false
  te_BadText_LanguageError : PySem.W.exmOne K (.ref A.c_BadText) (.ref A.c_LanguageError) = some true
  ec_BadText : ExcC K A.c_BadText
  ki_BadText_BadText : PySem.W.kitOne K (.ref A.c_BadText) (.ref A.c_BadText) = some true
  ki_BadText_BadWord : PySem.W.kitOne K (.ref A.c_BadText) (.ref A.c_BadWord) = some false
  te_BadWord_LanguageError : PySem.W.exmOne K (.ref A.c_BadWord) (.ref A.c_LanguageError) = some true
  ec_BadWord : ExcC K A.c_BadWord
  ki_BadWord_BadText : PySem.W.kitOne K (.ref A.c_BadWord) (.ref A.c_BadText) = some false
  ki_BadWord_BadWord : PySem.W.kitOne K (.ref A.c_BadWord) (.ref A.c_BadWord) = some true
  cl_Turner : Cls K A.c_Turner
  ob_Turner : ObjC K A.c_Turner
  mk_Turner : Mk K A.c_Turner A.a_Turner___init__
  m_Turner___call__ : Meth K A.c_Turner "__call__" A.a_Turner___call__
  nf_Turner_letters : NoAttr K A.c_Turner "letters"
  nf_Turner_images : NoAttr K A.c_Turner "images"
  nf_Turner_size : NoAttr K A.c_Turner "size"
  nf_Turner_table : NoAttr K A.c_Turner "table"
  io_Turner_Turner : PySem.W.kitOne K (.ref A.c_Turner) (.ref A.c_Turner) = some true
  fi_Turner___call__ : PySem.W.fnIn K A.a_Turner___call__ = true
/-! the draws -/
def StOk (H : Hp) (p c : Addr) : Prop := p ≠ c ∧ (∃ a b d : Int, H p = some (.lst [.ref c, .int a, .int b, .int d])) ∧ ∃ cells : List Int, cells ≠ [] ∧ cells.length ≤ 63 ∧ H c = some (.lst (cells.map V.int))
theorem StOk.b {H H' : Hp} {p c q : Addr} (s : StOk H p c) (e : ExB q H H') (h1 : p ≠ q) (h2 : c ≠ q) : StOk H' p c := by
  obtain ⟨n, ⟨a, b, d, h⟩, cells, h3, h4, h5⟩ := s
  exact ⟨n, ⟨a, b, d, e _ _ h1 h⟩, cells, h3, h4, e _ _ h2 h5⟩
theorem StOk.ex {H H' : Hp} {p c : Addr} (s : StOk H p c) (e : Ex H H') : StOk H' p c := by
  obtain ⟨n, ⟨a, b, d, h⟩, cells, h3, h4, h5⟩ := s
  exact ⟨n, ⟨a, b, d, e _ _ h⟩, cells, h3, h4, e _ _ h5⟩
theorem StOk.upd {H : Hp} {p c : Addr} {a b d : Int} (s : StOk H p c) : StOk (upd H p (.lst [.ref c, .int a, .int b, .int d])) p c := by
  obtain ⟨n, _, cells, h3, h4, h5⟩ := s
  exact ⟨n, ⟨a, b, d, upd_same⟩, cells, h3, h4, by rw [upd_ne n.symm]; exact h5⟩
theorem ExB.up {p : Addr} {H H1 : Hp} {o : HO} (e : ExB p H H1) : ExB p H (upd H1 p o) := fun a u n h => by
  rw [upd_ne n]
  exact e a u n h
/-- state, many: a number below many; only the state's own list turns -/
def sp__law_next : Sp := fun vs H Q _ => ∃ (p c : Addr) (many : Int), vs = [.ref p, .int many] ∧ StOk H p c ∧ 0 < many ∧ many < 1000000 ∧ ∀ (t : Int) (H' : Hp), 0 ≤ t → t < many → StOk H' p c → ExB p H H' → Q (.int t) H'
theorem atI_mod {cells : List Int} (h : cells ≠ []) (a : Int) : ∃ v : Int, atI (cells.map V.int) (a % ((cells.map V.int).length : Int)) = some (.int v) := by
  have h0 : 0 < cells.length := List.length_pos_iff.mpr h
  have h1 : 0 ≤ a % ((cells.map V.int).length : Int) := Int.emod_nonneg _ (by rw [List.length_map]; omega)
  have h2 : a % ((cells.map V.int).length : Int) < ((cells.map V.int).length : Int) := Int.emod_lt_of_pos _ (by rw [List.length_map]; omega)
  obtain ⟨k, hk⟩ : ∃ k : Nat, a % ((cells.map V.int).length : Int) = (k : Int) := ⟨(a % ((cells.map V.int).length : Int)).toNat, by omega⟩
  rw [hk] at h2 ⊢
  have h3 : k < cells.length := by
    rw [List.length_map] at h2
    omega
  exact ⟨cells[k], atI_nat (by rw [List.getElem?_map, List.getElem?_eq_getElem h3]; rfl)⟩
theorem ok__law_next {P : Program} {w : World} {K : PySem.W.Frag} {mg : Str → Option Value} {base : Heap} {A : Ad} (T : Txt P K mg A) : FnOk P w K mg base CX0 1 A.a__law_next A.fd__law_next ["state", "many"] sp__law_next := by
  refine T.F__law_next.ok sc__law_next (fun vs H Q E h => ?_) (fun cdv A' outer s H vs Q E hr h => ?_)
  · obtain ⟨p, c, many, rfl, _⟩ := h
    rfl
  · obtain ⟨p, c, many, rfl, st0, hm0, hm1, k⟩ := h
    have hu := hu_of hr
    refine ⟨_, (pss_cons (ps_set (i := 2) sc__law_next.nd rfl (Or.inl rfl) (pe_ix (show IxR _ (rIxL K) from ix_list) (pv 0) pe_int (fun _ _ => rfl)))
    (pss_cons (ps_set (i := 3) sc__law_next.nd rfl (Or.inl rfl) (pe_ix (show IxR _ (rIxL K) from ix_list) (pv 2) (pe_op op_mod (pe_callTy call_int1 (by rfl) T.n_int bt_int (pa_cons (pe_ix (show IxR _ (rIxL K) from ix_list) (pv 0) pe_int (fun _ _ => rfl)) pa_nil)) (pe_callB (show CallR _ _ (qLen K) from call_len_seq) (by rfl) T.n_len bt_len (pa_cons (pv 2) pa_nil))) (fun _ _ => rfl)))
    (pss_cons (ps_if (PW.pt (pw_and (pt_cmpR op_ge (pv 3) (pe_op op_pow pe_int pe_int) (nomark _)) (pw_and1 (pt_cmpR op_lt (pe_ix (show IxR _ (rIxL K) from ix_list) (pv 0) pe_int (fun _ _ => rfl)) (pe_callB (show CallR _ _ (qLen K) from call_len_seq) (by rfl) T.n_len bt_len (pa_cons (pv 2) pa_nil)) (nomark _)))))
    (pss_cons (ps_if (pt_cmpR op_eq (pe_ix (show IxR _ (rIxL K) from ix_list) (pv 0) pe_int (fun _ _ => rfl)) pe_int (nomark _))
    (pss_one (ps_asg (pv 3) (pg_sub (pv 0) pe_int set_list)))
    pss_nil)
    (pss_cons (ps_set (i := 4) sc__law_next.nd rfl (Or.inl rfl) (pe_op op_mod (pe_callTy call_int1 (by rfl) T.n_int bt_int (pa_cons (pe_ix (show IxR _ (rIxL K) from ix_list) (pv 0) pe_int (fun _ _ => rfl)) pa_nil)) (pv 1)))
    (pss_cons (ps_asg (pe_op op_fdiv (pe_callTy call_int1 (by rfl) T.n_int bt_int (pa_cons (pe_ix (show IxR _ (rIxL K) from ix_list) (pv 0) pe_int (fun _ _ => rfl)) pa_nil)) (pv 1)) (pg_sub (pv 0) pe_int set_list))
    (pss_cons (ps_asg (pe_op op_add (pe_ix (show IxR _ (rIxL K) from ix_list) (pv 0) pe_int (fun _ _ => rfl)) pe_int) (pg_sub (pv 0) pe_int set_list))
    (pss_cons (ps_if (PW.pt (pw_or (pt_cmpR op_eq (pe_ix (show IxR _ (rIxL K) from ix_list) (pv 0) pe_int (fun _ _ => rfl)) pe_int (nomark _)) (pw_or1 (pt_cmpR op_ge (pe_ix (show IxR _ (rIxL K) from ix_list) (pv 0) pe_int (fun _ _ => rfl)) pe_int (nomark _)))))
    (pss_cons (ps_asg (pe_op op_add (pe_ix (show IxR _ (rIxL K) from ix_list) (pv 0) pe_int (fun _ _ => rfl)) pe_int) (pg_sub (pv 0) pe_int set_list))
    (pss_one (ps_asg pe_int (pg_sub (pv 0) pe_int set_list))))
    pss_nil)
    (pss_one (ps_ret (pv 4))))))))
    pss_nil)
    (pss_cons (ps_set (i := 5) sc__law_next.nd rfl (Or.inl rfl) (pe_op op_add (pe_ix (show IxR _ (rIxL K) from ix_list) (pv 0) pe_int (fun _ _ => rfl)) (pe_op op_mul pe_int (pe_ix (show IxR _ (rIxL K) from ix_list) (pv 0) pe_int (fun _ _ => rfl)))))
    (pss_cons (ps_set (i := 6) sc__law_next.nd rfl (Or.inl rfl) (pe_op op_mul (pe_op op_add (pe_op op_mod (pe_callTy call_int1 (by rfl) T.n_int bt_int (pa_cons (pv 3) pa_nil)) pe_int) pe_int) (pe_op op_add pe_int (pe_op op_mul pe_int (pv 5)))))
    (pss_cons (ps_set (i := 6) sc__law_next.nd rfl (Or.inl rfl) (pe_op op_mod (pe_callTy call_int1 (by rfl) T.n_int bt_int (pa_cons (pv 6) pa_nil)) pe_int))
    (pss_cons (ps_set (i := 6) sc__law_next.nd rfl (Or.inl rfl) (pe_op op_mod (pe_callTy call_int1 (by rfl) T.n_int bt_int (pa_cons (pe_op op_add (pe_op op_add (pe_op op_mul (pv 6) (pv 6)) (pe_op op_mul pe_int (pv 5))) pe_int) pa_nil)) pe_int))
    (pss_cons (ps_asg (pe_op op_add (pe_ix (show IxR _ (rIxL K) from ix_list) (pv 0) pe_int (fun _ _ => rfl)) pe_int) (pg_sub (pv 0) pe_int set_list))
    (pss_cons (ps_if (pt_cmpR op_ge (pe_ix (show IxR _ (rIxL K) from ix_list) (pv 0) pe_int (fun _ _ => rfl)) pe_int (nomark _))
    (pss_cons (ps_asg (pe_op op_add (pe_ix (show IxR _ (rIxL K) from ix_list) (pv 0) pe_int (fun _ _ => rfl)) pe_int) (pg_sub (pv 0) pe_int set_list))
    (pss_one (ps_asg pe_int (pg_sub (pv 0) pe_int set_list))))
    pss_nil)
    (pss_one (ps_ret (pe_op op_mod (pe_callTy call_int1 (by rfl) T.n_int bt_int (pa_cons (pe_op op_fdiv (pv 6) pe_int) pa_nil)) (pv 1))))))))))))),
      ?_⟩
    obtain ⟨n, ⟨a, b, d, hp⟩, cells, h3, h4, hc⟩ := id st0
    refine x_start (σ := [some (.ref p), some (.int many), none, none, none, none, none]) rfl ?_
    walk_at "sx"
    have hl : (0 : Int) < ((cells.map V.int).length : Int) := by
      rw [List.length_map]
      have := List.length_pos_iff.mpr h3
      omega
    obtain ⟨v, hv⟩ := atI_mod h3 a
    refine x_I hl (x_ixL (.inl (.inl hc)) hv ?_)
    walk_at "sx"
    refine x_iteD (fun c1 => ?_) (fun c1 => ?_)
    · walk_at "sx"
      refine x_iteD (fun c2 => ?_) (fun c2 => ?_)
      · walk_at "sx"
        refine x_iteD (fun c3 => ?_) (fun c3 => ?_) <;> walk_at "sx" <;> refine x_iteD (fun c4 => ?_) (fun c4 => ?_) <;> walk_at "sx"
        all_goals first
          | exact k _ _ (Int.emod_nonneg _ (by omega)) (Int.emod_lt_of_pos _ hm0) (by repeat (first | exact st0 | refine StOk.upd ?_)) (by repeat (first | exact ExB.refl _ _ | refine ExB.up ?_))
          | (refine x_iteD (fun c5 => ?_) (fun c5 => ?_) <;> walk_at "sx" <;> exact k _ _ (Int.emod_nonneg _ (by omega)) (Int.emod_lt_of_pos _ hm0) (by repeat (first | exact st0 | refine StOk.upd ?_)) (by repeat (first | exact ExB.refl _ _ | refine ExB.up ?_)))
      · walk_at "sx"
        refine x_iteD (fun c5 => ?_) (fun c5 => ?_) <;> walk_at "sx" <;> exact k _ _ (Int.emod_nonneg _ (by omega)) (Int.emod_lt_of_pos _ hm0) (by repeat (first | exact st0 | refine StOk.upd ?_)) (by repeat (first | exact ExB.refl _ _ | refine ExB.up ?_))
    · walk_at "sx"
      refine x_iteD (fun c5 => ?_) (fun c5 => ?_) <;> walk_at "sx" <;> exact k _ _ (Int.emod_nonneg _ (by omega)) (Int.emod_lt_of_pos _ hm0) (by repeat (first | exact st0 | refine StOk.upd ?_)) (by repeat (first | exact ExB.refl _ _ | refine ExB.up ?_))

/-! a stack of numbers as a list, the innermost last -/
def enc (cs : List Nat) : List V := cs.reverse.map fun n => V.int (n : Nat)
theorem enc_len (cs : List Nat) : (enc cs).length = cs.length := by simp [enc]
theorem enc_push (x : Nat) (cs : List Nat) : enc cs ++ [V.int (x : Nat)] = enc (x :: cs) := by simp [enc]
theorem enc_pop (x : Nat) (cs : List Nat) : (enc (x :: cs)).dropLast = enc cs := by simp [enc]
theorem enc_last (x : Nat) (cs : List Nat) : (enc (x :: cs))[(enc (x :: cs)).length - 1]? = some (.int (x : Nat)) := by
  rw [enc_len]
  simp [enc]
theorem enc_atI (x : Nat) (cs : List Nat) : atI (enc (x :: cs)) ((enc (x :: cs)).length - 1 : Int) = some (.int (x : Nat)) := by
  have e : ((enc (x :: cs)).length - 1 : Int) = (((enc (x :: cs)).length - 1 : Nat) : Int) := by
    have := enc_len (x :: cs)
    rw [List.length_cons] at this
    omega
  rw [e]
  exact atI_nat (enc_last x cs)
theorem enc_ixN (x : Nat) (cs : List Nat) : ixN (enc (x :: cs)).length ((enc (x :: cs)).length - 1 : Int) = some cs.length := by
  rw [enc_len, List.length_cons]
  unfold ixN
  (rw [if_pos (by omega), if_pos (by omega)])
  simp
theorem enc_set (x y : Nat) (cs : List Nat) : (enc (x :: cs)).set cs.length (V.int (y : Nat)) = enc (y :: cs) := by
  simp [enc, List.set_append]

end TY

namespace TY
open PySem PyProof.Rows PySem.Spec L2 L2H
local macro_rules | `(tactic| walk_at "tylit") => `(tactic| first | exact lit_0 | exact lit_1 | exact lit_2 | exact lit_3 | exact lit_4 | exact lit_5 | exact lit_6 | exact lit_7 | exact lit_8 | exact lit_9 | exact lit_10 | exact lit_11 | exact lit_12 | exact lit_13 | exact lit_14 | exact lit_15 | exact lit_16 | exact lit_17 | exact lit_18 | exact lit_19 | exact lit_20 | exact lit_21 | exact lit_22)
/-! the word: one step; all steps -/
local macro_rules | `(tactic| walk_at "tysq") => `(tactic| first | assumption | exact Or.inl (Or.inl (by assumption)) | exact Or.inl (Or.inl upd_same))
local macro_rules | `(tactic| walk_at "tysqT") => `(tactic| first | assumption | exact Or.inl (Or.inl (by assumption)) | exact Or.inl (Or.inl upd_same))
local macro_rules | `(tactic| walk_at "tyhp") => `(tactic| first | assumption | exact upd_same)
local macro_rules | `(tactic| walk_at "tyc") => `(tactic| first | decide | assumption | omega | (simp only [List.length_map, List.length_append, List.length_cons, List.length_nil]; omega) | exact Or.inl ⟨by omega, by omega⟩ | exact ⟨by omega, by omega⟩ | exact ⟨by decide, by decide⟩)
local macro_rules | `(tactic| walk_at "sx1") => `(tactic| first
  | with_reducible refine x_seq ?_ | with_reducible refine x_next ?_ | with_reducible refine x_Dnx ?_ | with_reducible refine x_Drt ?_
  | with_reducible refine x_asg ?_ | ((with_reducible refine x_gname ?_); try dsimp only [List.set_cons_zero, List.set_cons_succ]) | with_reducible refine x_drop ?_ | with_reducible refine x_ret ?_
  | with_reducible refine x_ifS ?_ | with_reducible refine x_ifE ?_ | ((with_reducible apply x_var); (first | rfl | assumption)) | ((with_reducible apply x_cStr); with_reducible walk_at "tylit") | with_reducible refine x_c ?_
  | with_reducible refine l_addS ?_ | with_reducible refine l_inSign ?_ | with_reducible refine l_niSign ?_ | with_reducible refine l_repS ?_ | with_reducible refine x_then ?_ | with_reducible refine x_iTup ?_ | ((with_reducible apply x_gTup); (walk_at "tysqT"); rfl) | with_reducible refine x_gC ?_ | with_reducible refine x_gN ?_ | with_reducible refine x_nget ?_ | with_reducible refine x_nin ?_ | with_reducible refine x_nput ?_ | with_reducible refine x_nget2 ?_ | with_reducible refine x_inO ?_ | with_reducible refine x_callOA ?_ | with_reducible refine x_setd ?_ | with_reducible refine l_dictD ?_ | with_reducible refine x_din ?_ | with_reducible refine x_dnotin ?_ | with_reducible refine l_repA ?_ | with_reducible refine l_leS ?_ | with_reducible refine l_isN ?_ | with_reducible refine l_notN ?_
  | with_reducible refine x_op ?_ | with_reducible refine x_un ?_ | with_reducible refine x_I0 ?_ | ((with_reducible apply x_I); walk_at "tyc") | with_reducible refine x_U ?_
  | with_reducible refine x_eqI ?_ | with_reducible refine x_neI ?_ | with_reducible refine x_eqOne ?_ | with_reducible refine x_eqSt ?_ | with_reducible refine x_neSt ?_ | with_reducible refine x_eqS ?_ | with_reducible refine x_neS ?_
  | with_reducible refine x_test ?_ | with_reducible refine x_tB ?_ | with_reducible refine x_bl ?_ | with_reducible refine x_bl2 ?_
  | with_reducible refine x_yes ?_ | with_reducible refine x_and ?_ | with_reducible refine x_or ?_ | with_reducible refine x_not ?_ | with_reducible refine x_andV ?_ | with_reducible refine x_orV ?_ | with_reducible refine x_notV ?_
  | with_reducible refine x_nil ?_ | with_reducible refine x_cons ?_ | with_reducible refine l_len ?_ | with_reducible refine l_lenS ?_ | with_reducible refine l_int1 ?_ | with_reducible refine l_abs ?_ | with_reducible refine l_max2 ?_ | with_reducible refine l_min2 ?_ | with_reducible refine l_list ?_ | with_reducible refine l_listD ?_ | with_reducible refine l_strI ?_ | with_reducible refine x_cb ?_ | with_reducible refine x_call ?_ | with_reducible refine x_callS ?_ | with_reducible refine x_callE ?_
  | ((with_reducible apply x_aug); (first | rfl | assumption)) | with_reducible refine x_ipI ?_ | with_reducible refine x_sl ?_ | with_reducible refine x_nopart ?_ | with_reducible refine x_part ?_ | with_reducible refine x_int ?_
  | with_reducible refine x_gsub ?_ | with_reducible refine x_bm ?_ | with_reducible refine x_bm0 ?_ | with_reducible refine l_upper ?_ | with_reducible refine l_join ?_ | with_reducible refine l_index ?_ | with_reducible refine x_m0 ?_ | with_reducible refine x_m1 ?_ | with_reducible refine x_strA ?_ | with_reducible refine x_augS ?_
  | ((with_reducible apply x_tyL); walk_at "tysq")
  | ((with_reducible apply x_addS); walk_at "tyc") | with_reducible refine x_inSign ?_ | with_reducible refine x_niSign ?_ | with_reducible refine x_leS ?_ | with_reducible refine x_isN ?_ | with_reducible refine x_notN ?_ | with_reducible refine x_max2 ?_ | with_reducible refine x_min2 ?_
  | ((with_reducible apply x_lenS); walk_at "tyc") | ((with_reducible apply x_lenL); walk_at "tysq")
  | with_reducible refine x_int1 ?_ | with_reducible refine x_abs ?_
  | ((with_reducible apply x_ixL); walk_at "tysq"; rfl) | ((with_reducible apply x_setL); walk_at "tyhp"; rfl)
  | with_reducible refine x_lc ?_ | with_reducible refine x_for ?_ | with_reducible refine x_iStr ?_ | with_reducible refine x_qStr ?_ | with_reducible refine x_iLst ?_ | ((with_reducible apply x_qLst); walk_at "tysq")
  | with_reducible refine x_iRng1 ?_ | with_reducible refine x_iRng2 ?_ | ((with_reducible apply x_qRng1); walk_at "tyc") | ((with_reducible apply x_qRng2); walk_at "tyc") | with_reducible refine x_iEnS ?_ | with_reducible refine x_qEnS ?_
  | ((with_reducible apply x_slS); walk_at "tyc")
  | with_reducible refine x_lst ?_ | with_reducible refine x_tup ?_
  | with_reducible refine x_listZip ?_ | with_reducible refine x_iRev ?_ | ((with_reducible apply x_qRev); walk_at "tysq") | with_reducible refine x_dget ?_ | with_reducible refine x_dput ?_ | with_reducible refine x_tern ?_ | with_reducible refine x_replA ?_ | with_reducible refine x_replC ?_ | with_reducible refine x_sl3 ?_ | with_reducible refine x_iEnL ?_ | with_reducible refine x_lc2 ?_ | with_reducible refine x_ckw ?_ | with_reducible refine x_eqB ?_ | with_reducible refine x_fld ?_ | with_reducible refine x_sfld ?_ | with_reducible refine x_makeS ?_ | with_reducible refine x_methA ?_ | with_reducible refine x_fmt ?_ | with_reducible refine x_js0 ?_ | with_reducible refine x_js ?_ | ((with_reducible apply x_qJs); walk_at "tyc") | with_reducible refine x_jsE ?_ | with_reducible refine x_mkO ?_ | ((with_reducible apply x_ixT); walk_at "tysqT"; rfl)
  | with_reducible refine x_iteT ?_ | with_reducible refine x_iteF ?_ | with_reducible refine x_iteNT' ?_ | with_reducible refine x_iteNF' ?_)
local macro_rules | `(tactic| walk_at "sx") => `(tactic| repeat walk_at "sx1")
local macro_rules | `(tactic| walk_at "sxi") => `(tactic| repeat (first
  | with_reducible refine x_seq ?_ | with_reducible refine x_next ?_ | with_reducible refine x_Dnx ?_ | with_reducible refine x_Drt ?_ | with_reducible refine x_asg ?_ | ((with_reducible refine x_gname ?_); try dsimp only [List.set_cons_zero, List.set_cons_succ]) | with_reducible refine x_drop ?_ | with_reducible refine x_ifS ?_))
local macro_rules | `(tactic| walk_at "sxn") => `(tactic| repeat (first
  | with_reducible refine x_next ?_ | with_reducible refine x_Dnx ?_ | with_reducible refine x_Drt ?_ | with_reducible refine x_asg ?_ | ((with_reducible refine x_gname ?_); try dsimp only [List.set_cons_zero, List.set_cons_succ]) | with_reducible refine x_drop ?_))
/-! what the draws make -/
def sp__law_start (K : PySem.W.Frag) : Sp := fun vs H Q _ => ∃ (a : Addr) (ns : List Int), vs = [.ref a] ∧ SqL K H a (ns.map V.int) ∧ ns.length ≤ 63 ∧ ∀ p c H', H p = none → Ex H H' → StOk H' p c → Q (.ref p) H'
theorem ok__law_start {P : Program} {w : World} {K : PySem.W.Frag} {mg : Str → Option Value} {base : Heap} {A : Ad} (T : Txt P K mg A) : FnOk P w K mg base CX0 1 A.a__law_start A.fd__law_start ["script"] (sp__law_start K) := by
  refine T.F__law_start.ok sc__law_start (fun vs H Q E h => ?_) (fun cdv A' outer s H vs Q E hr h => ?_)
  · obtain ⟨a, ns, rfl, _⟩ := h
    rfl
  · obtain ⟨a, ns, rfl, hS, hn, k⟩ := h
    have hu := hu_of hr
    refine ⟨_, (pss_cons (ps_setLc (i := 1) (own := [("cell", 2)]) (g := gName 2) (tt := tYes) rfl sc__law_start.nd rfl rfl (sw_true rfl rfl rfl (by decide +kernel)) (pi_list (pv 0)) (blkOk_by (N := ["script", "cells", "cell"]) (sc := defScope s__law_start) (by decide +kernel)) (fun _ _ _ _ _ => (pg_name (i := 2) sc__law_start.nd rfl (Or.inl rfl))) (fun _ _ _ _ _ => pts_nil) (fun _ _ _ _ _ => (pe_callB call_abs (by rfl) T.n_abs bt_abs (pa_cons (pv 2) pa_nil))))
    (pss_cons (ps_if (pt_cmpR op_eq (pe_callB (show CallR _ _ (qLen K) from call_len_seq) (by rfl) T.n_len bt_len (pa_cons (pv 1) pa_nil)) pe_int (nomark _))
    (pss_one (ps_set (i := 1) sc__law_start.nd rfl (Or.inl rfl) (pe_lst (pa_cons pe_int pa_nil))))
    pss_nil)
    (pss_one (ps_ret (pe_lst (pa_cons (pv 1) (pa_cons pe_int (pa_cons pe_int (pa_cons pe_int pa_nil))))))))),
      ?_⟩
    refine x_start (σ := [some (.ref a), none, none]) rfl ?_
    walk_at "sx"
    refine lc_L (l := ns) (enc := V.int) (fun _ => true) (fun n => V.int (if n < 0 then -n else n)) hS (by omega) (fun _ => rfl) (fun q n r H1 _ _ R hR => ?_) (fun q n r H1 _ _ _ R hR => ?_) fun c H1 hc e1 h1 => ?_
    · walk_at "sx"
      exact hR _ (Ex.refl _)
    · walk_at "sx"
      exact hR _ (Ex.refl _)
    · rw [List.filter_eq_self.mpr (fun _ _ => rfl)] at h1
      walk_at "sx"
      cases ns with
      | nil =>
        refine x_iteDT rfl ?_
        walk_at "sx"
        refine x_newL (by decide) fun c2 hc2 => ?_
        walk_at "sx"
        refine x_newL (by simp) fun p hp => ?_
        walk_at "sx"
        have np : c2 ≠ p := ne_of_none upd_same hp
        refine k p c2 _ (((e1.new hc2).back hp)) ((e1.new hc2).new hp) ⟨np.symm, ⟨0, 0, 0, upd_same⟩, [0], by decide, by decide, by rw [upd_ne np]; exact upd_same⟩
      | cons n ns =>
        refine x_iteDF (by simp; omega) ?_
        walk_at "sx"
        refine x_newL (by simp) fun p hp => ?_
        walk_at "sx"
        have np : c ≠ p := ne_of_none h1 hp
        refine k p c _ (e1.back hp) (e1.new hp) ⟨np.symm, ⟨0, 0, 0, upd_same⟩, (n :: ns).map (fun n => if n < 0 then -n else n), by simp, by rw [List.length_map]; exact hn, ?_⟩
        rw [upd_ne np, h1, List.map_map]
        rfl
/-! letters -/
def Abc (l : List Nat) : Prop := l ≠ [] ∧ l.length ≤ 4 ∧ l.Pairwise (· < ·) ∧ ∀ x ∈ l, 97 ≤ x ∧ x ≤ 122
abbrev abcs : List Nat := [97, 98, 99, 100, 101, 102, 103, 104, 105, 106, 107, 108, 109, 110, 111, 112, 113, 114, 115, 116, 117, 118, 119, 120, 121, 122]
theorem abcs_at {n : Nat} (h : n < 26) : abcs[n]? = some (97 + n) := by
  have : ∀ m : Fin 26, abcs[m.val]? = some (97 + m.val) := by decide
  exact this ⟨n, h⟩
def sp__law_alphabet : Sp := fun vs H Q _ => ∃ (p c : Addr) (many : Int), vs = [.ref p, .int many] ∧ StOk H p c ∧ 1 ≤ many ∧ many ≤ 4 ∧ ∀ (l : List Nat) (H' : Hp), Abc l → (l.length : Int) = many → StOk H' p c → ExB p H H' → Q (S l) H'
def sp_state (F : List Nat → Prop) (vs0 : List V) : Sp := fun vs H Q _ => ∃ (p c : Addr), vs = .ref p :: vs0 ∧ StOk H p c ∧ ∀ (l : List Nat) (H' : Hp), F l → StOk H' p c → ExB p H H' → Q (S l) H'
def sp__law_some_letters : Sp := fun vs H Q _ => ∃ (p c : Addr), vs = [.ref p] ∧ StOk H p c ∧ ∀ (l : List Nat) (H' : Hp), Abc l → StOk H' p c → ExB p H H' → Q (S l) H'
/-! rows of numbers, at addresses that N lets -/
def nums (r : List Nat) : List V := r.map fun n => V.int (n : Nat)
def Rows (N : Addr → Prop) (H : Hp) (q : Addr) (bl : List (List Nat)) : Prop :=
  ∃ as : List Addr, H q = some (.lst (as.map V.ref)) ∧ as.length = bl.length ∧ ∀ (i : Nat) (a : Addr) (r : List Nat), as[i]? = some a → bl[i]? = some r → N a ∧ H a = some (.lst (nums r))
theorem Rows.mono {N N' : Addr → Prop} {H H' : Hp} {q : Addr} {bl : List (List Nat)} (R : Rows N H q bl) (hN : ∀ a, N a → N' a) (hq : ∀ o, H q = some o → H' q = some o) (ha : ∀ a o, N a → H a = some o → H' a = some o) : Rows N' H' q bl := by
  obtain ⟨as, h1, h2, h3⟩ := R
  exact ⟨as, hq _ h1, h2, fun i a r e1 e2 => ⟨hN a (h3 i a r e1 e2).1, ha a _ (h3 i a r e1 e2).1 (h3 i a r e1 e2).2⟩⟩
theorem Rows.ex {N : Addr → Prop} {H H' : Hp} {q : Addr} {bl : List (List Nat)} (R : Rows N H q bl) (e : Ex H H') : Rows N H' q bl := R.mono (fun _ h => h) (fun _ h => e _ _ h) fun _ _ _ h => e _ _ h
theorem Rows.at {N : Addr → Prop} {H : Hp} {q : Addr} {bl : List (List Nat)} {i : Nat} {r : List Nat} (R : Rows N H q bl) (hi : bl[i]? = some r) :
    ∃ (as : List Addr) (a : Addr), H q = some (.lst (as.map V.ref)) ∧ atI (as.map V.ref) ((i : Nat) : Int) = some (.ref a) ∧ N a ∧ H a = some (.lst (nums r)) := by
  obtain ⟨as, h1, h2, h3⟩ := R
  have hl : i < as.length := by
    rw [h2]
    exact (List.getElem?_eq_some_iff.mp hi).1
  obtain ⟨n, e⟩ := h3 i as[i] r (List.getElem?_eq_getElem hl) hi
  exact ⟨as, as[i], h1, atI_nat (by rw [List.getElem?_map, List.getElem?_eq_getElem hl]; rfl), n, e⟩
def texts (tx : List (List Nat)) : List V := tx.map S
/-- signs, below: the text of the tree that they tell -/
def sp__law_written : Sp := fun vs H Q _ => ∃ (p q : Addr) (sg : List Nat) (bl : List (List Nat)) (t : Fo), vs = [.ref p, .ref q] ∧ H p = some (.lst (sg.map fun c => S [c])) ∧ Rows (fun _ => True) H q bl ∧ Grown t sg.length bl ∧ sg.length ≤ 1000 ∧
  ∀ H', Ex H H' → Q (S (t.map fun i => sg.getD i 0).flat) H'
theorem nums_take (r : List Nat) (s : Nat) (h : s ≤ r.length) : cutV (nums r) none (some ((s : Nat) : Int)) = nums (r.take s) := by
  unfold cutV nums
  rw [HT.sIx_none, HT.sIx_nat, List.length_map, Nat.min_eq_left h]
  simp [List.map_take]
theorem nums_drop (r : List Nat) (s : Nat) (h : s ≤ r.length) : cutV (nums r) (some ((s : Nat) : Int)) none = nums (r.drop s) := by
  unfold cutV nums
  rw [HT.sIx_none, HT.sIx_nat, List.length_map, Nat.min_eq_left h]
  rw [← List.map_drop, List.take_of_length_le (by simp)]
theorem Rows.set {N : Addr → Prop} {H : Hp} {q a' : Addr} {bl : List (List Nat)} {row : List Nat} {as : List Addr} {j : Nat} (R : Rows N H q bl) (hq : H q = some (.lst (as.map V.ref))) (nq : ∀ a, N a → a ≠ q) (na : N a') (ha : H a' = some (.lst (nums row))) (hj : j < bl.length) :
    Rows N (upd H q (.lst ((as.map V.ref).set j (.ref a')))) q (bl.set j row) := by
  obtain ⟨as2, h1, h2, h3⟩ := R
  rw [hq] at h1
  have e : as = as2 := by
    have h := HO.lst.inj (Option.some.inj h1)
    exact List.map_inj_right (fun x y h => V.ref.inj h) |>.mp h
  subst e
  refine ⟨as.set j a', by rw [upd_same, List.map_set], by simp [h2], fun i a r e1 e2 => ?_⟩
  by_cases hi : i = j
  · subst hi
    rw [List.getElem?_set_self (by omega)] at e1
    rw [List.getElem?_set_self hj] at e2
    cases e1
    cases e2
    exact ⟨na, by rw [upd_ne (nq _ na)]; exact ha⟩
  · rw [List.getElem?_set_ne (Ne.symm hi)] at e1 e2
    obtain ⟨n1, n2⟩ := h3 i a r e1 e2
    exact ⟨n1, by rw [upd_ne (nq _ n1)]; exact n2⟩
theorem Rows.push {N : Addr → Prop} {H : Hp} {q a' : Addr} {bl : List (List Nat)} {as : List Addr} (R : Rows N H q bl) (hq : H q = some (.lst (as.map V.ref))) (nq : ∀ a, N a → a ≠ q) (na : N a') (ha : H a' = some (.lst [])) :
    Rows N (upd H q (.lst (as.map V.ref ++ [.ref a']))) q (bl ++ [[]]) := by
  obtain ⟨as2, h1, h2, h3⟩ := R
  rw [hq] at h1
  have e : as = as2 := by
    have h := HO.lst.inj (Option.some.inj h1)
    exact List.map_inj_right (fun x y h => V.ref.inj h) |>.mp h
  subst e
  refine ⟨as ++ [a'], by rw [upd_same, List.map_append]; rfl, by simp [h2], fun i a r e1 e2 => ?_⟩
  by_cases hi : i < as.length
  · rw [List.getElem?_append_left hi] at e1
    rw [List.getElem?_append_left (by omega)] at e2
    obtain ⟨n1, n2⟩ := h3 i a r e1 e2
    exact ⟨n1, by rw [upd_ne (nq _ n1)]; exact n2⟩
  · have hlt : i < (as ++ [a']).length := (List.getElem?_eq_some_iff.mp e1).1
    have hi2 : i = as.length := by
      rw [List.length_append, List.length_singleton] at hlt
      omega
    subst hi2
    rw [List.getElem?_append_right (Nat.le_refl _), Nat.sub_self] at e1
    rw [h2, List.getElem?_append_right (Nat.le_refl _), Nat.sub_self] at e2
    have z1 : a' = a := by simpa using e1
    have z2 : [] = r := by simpa using e2
    subst z1 z2
    exact ⟨na, by rw [upd_ne (nq _ na)]; exact ha⟩
theorem Rows.len {N : Addr → Prop} {H : Hp} {q : Addr} {bl : List (List Nat)} {as : List Addr} (R : Rows N H q bl) (hq : H q = some (.lst (as.map V.ref))) : as.length = bl.length := by
  obtain ⟨as2, h1, h2, _⟩ := R
  rw [hq] at h1
  have h := congrArg List.length (HO.lst.inj (Option.some.inj h1))
  rw [List.length_map, List.length_map] at h
  omega
theorem Rows.setg {N : Addr → Prop} {H H' : Hp} {q a' : Addr} {bl : List (List Nat)} {row : List Nat} {as : List Addr} {j : Nat} (R : Rows N H q bl) (hq : H q = some (.lst (as.map V.ref))) (nq : ∀ a, N a → a ≠ q) (na : N a') (ha : H a' = some (.lst (nums row))) (hj : j < bl.length)
    (h1 : H' q = some (.lst ((as.map V.ref).set j (.ref a')))) (h2 : ∀ a, a ≠ q → H' a = H a) : Rows N H' q (bl.set j row) :=
  (Rows.set R hq nq na ha hj).mono (fun _ h => h) (fun o h => by rw [upd_same] at h; rw [h1, h]) fun a o n h => by rw [upd_ne (nq a n)] at h; rw [h2 a (nq a n)]; exact h
theorem Rows.pushg {N : Addr → Prop} {H H' : Hp} {q a' : Addr} {bl : List (List Nat)} {as : List Addr} (R : Rows N H q bl) (hq : H q = some (.lst (as.map V.ref))) (nq : ∀ a, N a → a ≠ q) (na : N a') (ha : H a' = some (.lst []))
    (h1 : H' q = some (.lst (as.map V.ref ++ [.ref a']))) (h2 : ∀ a, a ≠ q → H' a = H a) : Rows N H' q (bl ++ [[]]) :=
  (Rows.push R hq nq na ha).mono (fun _ h => h) (fun o h => by rw [upd_same] at h; rw [h1, h]) fun a o n h => by rw [upd_ne (nq a n)] at h; rw [h2 a (nq a n)]; exact h
theorem ExB.mutg {p q : Addr} {H H1 H2 : Hp} (e : ExB p H H1) (h : H q = none) (h2 : ∀ a, a ≠ q → H2 a = H1 a) : ExB p H H2 := fun a u n ha => by
  rw [h2 a (ne_of_none ha h)]
  exact e a u n ha
theorem StOk.mutg {H H2 : Hp} {p c q : Addr} (s : StOk H p c) (h1 : p ≠ q) (h2 : c ≠ q) (hh : ∀ a, a ≠ q → H2 a = H a) : StOk H2 p c := s.b (q := q) (fun a o n h => by rw [hh a n]; exact h) h1 h2
theorem ExB.mutf {p q : Addr} {H H1 : Hp} {o : HO} (e : ExB p H H1) (h : H q = none) : ExB p H (upd H1 q o) := fun a u n ha => by
  rw [upd_ne (ne_of_none ha h)]
  exact e a u n ha
theorem ExB.new {p q : Addr} {H H1 : Hp} {o : HO} (e : ExB p H H1) (h : H1 q = none) : ExB p H (upd H1 q o) := fun a u n ha => by
  rw [upd_ne (ne_of_none (e a u n ha) h)]
  exact e a u n ha
theorem StOk.p {H : Hp} {p c : Addr} (s : StOk H p c) : ∃ o, H p = some o := by
  obtain ⟨_, ⟨a, b, d, h⟩, _⟩ := s
  exact ⟨_, h⟩
theorem StOk.c {H : Hp} {p c : Addr} (s : StOk H p c) : ∃ o, H c = some o := by
  obtain ⟨_, _, cells, _, _, h⟩ := s
  exact ⟨_, h⟩
theorem StOk.mutf {H : Hp} {p c q : Addr} {o : HO} (s : StOk H p c) (h1 : p ≠ q) (h2 : c ≠ q) : StOk (L2.upd H q o) p c := s.b (q := q) ExB.at h1 h2
theorem StOk.new {H : Hp} {p c q : Addr} {o : HO} (s : StOk H p c) (h : H q = none) : StOk (L2.upd H q o) p c := s.ex ((Ex.refl H).new h)
theorem StOk.ne {H : Hp} {p c q : Addr} (s : StOk H p c) (h : H q = none) : p ≠ q ∧ c ≠ q := by
  obtain ⟨o, h1⟩ := s.p
  obtain ⟨u, h2⟩ := s.c
  exact ⟨ne_of_none h1 h, ne_of_none h2 h⟩
/-- a drawn tree -/
def TreeOf (lt : List Nat) (n : Nat) (t : Fo) : Prop := (∃ c k, t = .cons c k .nil) ∧ t.size = n ∧ t.K3 ∧ ∀ c ∈ t.ids, c ∈ lt
def sp__law_tree : Sp := fun vs H Q _ => ∃ (p c : Addr) (lt : List Nat) (n : Nat), vs = [.ref p, S lt, .int (n : Nat)] ∧ StOk H p c ∧ lt ≠ [] ∧ lt.length ≤ 100 ∧ 1 ≤ n ∧ n ≤ 100 ∧
  ∀ (t : Fo) (H' : Hp), TreeOf lt n t → StOk H' p c → ExB p H H' → Q (S t.flat) H'
/-! a word -/
def sp__law_word : Sp := fun vs H Q _ => ∃ (p c : Addr) (lt : List Nat) (n : Nat), vs = [.ref p, S lt, .int (n : Nat)] ∧ StOk H p c ∧ lt ≠ [] ∧ lt.length ≤ 100 ∧ n ≤ 100 ∧ ∀ (w : List Nat) (H' : Hp), w.length = n → (∀ x ∈ w, x ∈ lt) → StOk H' p c → ExB p H H' → Q (S w) H'
theorem ok__law_word {P : Program} {w : World} {K : PySem.W.Frag} {mg : Str → Option Value} {base : Heap} {A : Ad} (T : Txt P K mg A) : FnOk P w K mg base CX0 2 A.a__law_word A.fd__law_word ["state", "letters", "size"] sp__law_word := by
  refine T.F__law_word.ok sc__law_word (fun vs H Q E h => ?_) (fun cdv A' outer s H vs Q E hr h => ?_)
  · obtain ⟨p, c, lt, n, rfl, _⟩ := h
    rfl
  · obtain ⟨p, c, lt, n, rfl, st0, hl0, hl1, hn2, k⟩ := h
    have hu := hu_of hr
    refine ⟨_, (pss_cons (ps_set (i := 3) sc__law_word.nd rfl (Or.inl rfl) pe_str)
    (pss_cons (ps_for PassesOwn.never rfl (pi_range1 (by rfl) T.n_range (pa_cons (pv 2) pa_nil)) (pg_name (i := 4) sc__law_word.nd rfl (Or.inl rfl))
    (pss_one (ps_set (i := 3) sc__law_word.nd rfl (Or.inl rfl) (pe_op op_add_str (pv 3) (pe_ix ix_str (pv 1) (pe_call (ok__law_next (w := w) T) (hr.mono (by decide)) rfl T.g__law_next T.F__law_next.kp T.b__law_next .nil pass0 (pa_cons (pv 0) (pa_cons (pe_callB call_len_str (by rfl) T.n_len bt_len (pa_cons (pv 1) pa_nil)) pa_nil))) (fun _ _ => rfl))))))
    (pss_one (ps_ret (pv 3))))),
      ?_⟩
    refine x_start (σ := [some (.ref p), some (S lt), some (.int (n : Nat)), none, none]) rfl ?_
    have h1 : 1 ≤ lt.length := List.length_pos_iff.mpr hl0
    walk_at "sx"
    rw [Int.toNat_natCast]
    refine for_R (fun i σ H1 => ∃ (w : List Nat) (o : Option V), σ = [some (.ref p), some (S lt), some (.int (n : Nat)), some (S w), o] ∧ w.length = i ∧ (∀ x ∈ w, x ∈ lt) ∧ StOk H1 p c ∧ ExB p H H1) ⟨[], none, rfl, rfl, (fun x h => nomatch h), st0, ExB.refl _ _⟩ ?_ ?_
    · rintro i σ H1 hi ⟨w, o, rfl, hw, hm, st1, e1⟩
      walk_at "sx"
      refine ⟨p, c, _, rfl, st1, by omega, by omega, fun v H2 v0 v1 st2 e2 => ?_⟩
      obtain ⟨j, rfl⟩ : ∃ j : Nat, v = (j : Int) := ⟨v.toNat, by omega⟩
      have hj : j < lt.length := by omega
      refine x_ixS (by omega) (atI_nat (List.getElem?_eq_getElem hj)) ?_
      refine x_addS ?_ ?_
      · rw [List.length_singleton]
        omega
      walk_at "sx"
      refine ⟨w ++ [lt[j]], _, rfl, by rw [List.length_append, hw]; rfl, fun x hx => ?_, st2, e1.trans e2⟩
      rcases List.mem_append.mp hx with m | m
      · exact hm x m
      · rw [List.mem_singleton.mp m]
        exact List.getElem_mem hj
    · rintro σ H1 ⟨w, o, rfl, hw, hm, st1, e1⟩
      walk_at "sx"
      exact k w _ hw hm st1 e1

end TY

namespace TY
open PySem PyProof.Rows PySem.Spec L2 L2H
local macro_rules | `(tactic| walk_at "tylit") => `(tactic| first | exact lit_0 | exact lit_1 | exact lit_2 | exact lit_3 | exact lit_4 | exact lit_5 | exact lit_6 | exact lit_7 | exact lit_8 | exact lit_9 | exact lit_10 | exact lit_11 | exact lit_12 | exact lit_13 | exact lit_14 | exact lit_15 | exact lit_16 | exact lit_17 | exact lit_18 | exact lit_19 | exact lit_20 | exact lit_21 | exact lit_22)
/-! the word: one step; all steps -/
local macro_rules | `(tactic| walk_at "tysq") => `(tactic| first | assumption | exact Or.inl (Or.inl (by assumption)) | exact Or.inl (Or.inl upd_same))
local macro_rules | `(tactic| walk_at "tysqT") => `(tactic| first | assumption | exact Or.inl (Or.inl (by assumption)) | exact Or.inl (Or.inl upd_same))
local macro_rules | `(tactic| walk_at "tyhp") => `(tactic| first | assumption | exact upd_same)
local macro_rules | `(tactic| walk_at "tyc") => `(tactic| first | decide | assumption | omega | (simp only [List.length_map, List.length_append, List.length_cons, List.length_nil]; omega) | exact Or.inl ⟨by omega, by omega⟩ | exact ⟨by omega, by omega⟩ | exact ⟨by decide, by decide⟩)
local macro_rules | `(tactic| walk_at "sx1") => `(tactic| first
  | with_reducible refine x_seq ?_ | with_reducible refine x_next ?_ | with_reducible refine x_Dnx ?_ | with_reducible refine x_Drt ?_
  | with_reducible refine x_asg ?_ | ((with_reducible refine x_gname ?_); try dsimp only [List.set_cons_zero, List.set_cons_succ]) | with_reducible refine x_drop ?_ | with_reducible refine x_ret ?_
  | with_reducible refine x_ifS ?_ | with_reducible refine x_ifE ?_ | ((with_reducible apply x_var); (first | rfl | assumption)) | ((with_reducible apply x_cStr); with_reducible walk_at "tylit") | with_reducible refine x_c ?_
  | with_reducible refine l_addS ?_ | with_reducible refine l_inSign ?_ | with_reducible refine l_niSign ?_ | with_reducible refine l_repS ?_ | with_reducible refine x_then ?_ | with_reducible refine x_iTup ?_ | ((with_reducible apply x_gTup); (walk_at "tysqT"); rfl) | with_reducible refine x_gC ?_ | with_reducible refine x_gN ?_ | with_reducible refine x_nget ?_ | with_reducible refine x_nin ?_ | with_reducible refine x_nput ?_ | with_reducible refine x_nget2 ?_ | with_reducible refine x_inO ?_ | with_reducible refine x_callOA ?_ | with_reducible refine x_setd ?_ | with_reducible refine l_dictD ?_ | with_reducible refine x_din ?_ | with_reducible refine x_dnotin ?_ | with_reducible refine l_repA ?_ | with_reducible refine l_leS ?_ | with_reducible refine l_isN ?_ | with_reducible refine l_notN ?_
  | with_reducible refine x_op ?_ | with_reducible refine x_un ?_ | with_reducible refine x_I0 ?_ | ((with_reducible apply x_I); walk_at "tyc") | with_reducible refine x_U ?_
  | with_reducible refine x_eqI ?_ | with_reducible refine x_neI ?_ | with_reducible refine x_eqOne ?_ | with_reducible refine x_eqSt ?_ | with_reducible refine x_neSt ?_ | with_reducible refine x_eqS ?_ | with_reducible refine x_neS ?_
  | with_reducible refine x_test ?_ | with_reducible refine x_tB ?_ | with_reducible refine x_bl ?_ | with_reducible refine x_bl2 ?_
  | with_reducible refine x_yes ?_ | with_reducible refine x_and ?_ | with_reducible refine x_or ?_ | with_reducible refine x_not ?_ | with_reducible refine x_andV ?_ | with_reducible refine x_orV ?_ | with_reducible refine x_notV ?_
  | with_reducible refine x_nil ?_ | with_reducible refine x_cons ?_ | with_reducible refine l_len ?_ | with_reducible refine l_lenS ?_ | with_reducible refine l_int1 ?_ | with_reducible refine l_abs ?_ | with_reducible refine l_max2 ?_ | with_reducible refine l_min2 ?_ | with_reducible refine l_list ?_ | with_reducible refine l_listD ?_ | with_reducible refine l_strI ?_ | with_reducible refine x_cb ?_ | with_reducible refine x_call ?_ | with_reducible refine x_callS ?_ | with_reducible refine x_callE ?_
  | ((with_reducible apply x_aug); (first | rfl | assumption)) | with_reducible refine x_ipI ?_ | with_reducible refine x_sl ?_ | with_reducible refine x_nopart ?_ | with_reducible refine x_part ?_ | with_reducible refine x_int ?_
  | with_reducible refine x_gsub ?_ | with_reducible refine x_bm ?_ | with_reducible refine x_bm0 ?_ | with_reducible refine l_upper ?_ | with_reducible refine l_join ?_ | with_reducible refine l_index ?_ | with_reducible refine x_m0 ?_ | with_reducible refine x_m1 ?_ | with_reducible refine x_strA ?_ | with_reducible refine x_augS ?_
  | ((with_reducible apply x_tyL); walk_at "tysq")
  | ((with_reducible apply x_addS); walk_at "tyc") | with_reducible refine x_inSign ?_ | with_reducible refine x_niSign ?_ | with_reducible refine x_leS ?_ | with_reducible refine x_isN ?_ | with_reducible refine x_notN ?_ | with_reducible refine x_max2 ?_ | with_reducible refine x_min2 ?_
  | ((with_reducible apply x_lenS); walk_at "tyc") | ((with_reducible apply x_lenL); walk_at "tysq")
  | with_reducible refine x_int1 ?_ | with_reducible refine x_abs ?_
  | ((with_reducible apply x_ixL); walk_at "tysq"; rfl) | ((with_reducible apply x_setL); walk_at "tyhp"; rfl)
  | with_reducible refine x_lc ?_ | with_reducible refine x_for ?_ | with_reducible refine x_iStr ?_ | with_reducible refine x_qStr ?_ | with_reducible refine x_iLst ?_ | ((with_reducible apply x_qLst); walk_at "tysq")
  | with_reducible refine x_iRng1 ?_ | with_reducible refine x_iRng2 ?_ | ((with_reducible apply x_qRng1); walk_at "tyc") | ((with_reducible apply x_qRng2); walk_at "tyc") | with_reducible refine x_iEnS ?_ | with_reducible refine x_qEnS ?_
  | ((with_reducible apply x_slS); walk_at "tyc")
  | with_reducible refine x_lst ?_ | with_reducible refine x_tup ?_
  | with_reducible refine x_listZip ?_ | with_reducible refine x_iRev ?_ | ((with_reducible apply x_qRev); walk_at "tysq") | with_reducible refine x_dget ?_ | with_reducible refine x_dput ?_ | with_reducible refine x_tern ?_ | with_reducible refine x_replA ?_ | with_reducible refine x_replC ?_ | with_reducible refine x_sl3 ?_ | with_reducible refine x_iEnL ?_ | with_reducible refine x_lc2 ?_ | with_reducible refine x_ckw ?_ | with_reducible refine x_eqB ?_ | with_reducible refine x_fld ?_ | with_reducible refine x_sfld ?_ | with_reducible refine x_makeS ?_ | with_reducible refine x_methA ?_ | with_reducible refine x_fmt ?_ | with_reducible refine x_js0 ?_ | with_reducible refine x_js ?_ | ((with_reducible apply x_qJs); walk_at "tyc") | with_reducible refine x_jsE ?_ | with_reducible refine x_mkO ?_ | ((with_reducible apply x_ixT); walk_at "tysqT"; rfl)
  | with_reducible refine x_iteT ?_ | with_reducible refine x_iteF ?_ | with_reducible refine x_iteNT' ?_ | with_reducible refine x_iteNF' ?_)
local macro_rules | `(tactic| walk_at "sx") => `(tactic| repeat walk_at "sx1")
local macro_rules | `(tactic| walk_at "sxi") => `(tactic| repeat (first
  | with_reducible refine x_seq ?_ | with_reducible refine x_next ?_ | with_reducible refine x_Dnx ?_ | with_reducible refine x_Drt ?_ | with_reducible refine x_asg ?_ | ((with_reducible refine x_gname ?_); try dsimp only [List.set_cons_zero, List.set_cons_succ]) | with_reducible refine x_drop ?_ | with_reducible refine x_ifS ?_))
local macro_rules | `(tactic| walk_at "sxn") => `(tactic| repeat (first
  | with_reducible refine x_next ?_ | with_reducible refine x_Dnx ?_ | with_reducible refine x_Drt ?_ | with_reducible refine x_asg ?_ | ((with_reducible refine x_gname ?_); try dsimp only [List.set_cons_zero, List.set_cons_succ]) | with_reducible refine x_drop ?_))
/-! letters -/
abbrev small : List Nat := [97, 98, 99, 100, 101, 102, 103, 104, 105, 106, 107, 108, 109, 110, 111, 112, 113, 114, 115, 116, 117, 118, 119, 120, 121, 122]
def ascL : List Nat → List Nat → Bool
  | [], _ => true
  | c :: r, b => decide (c ∈ small) && decide (b < [c]) && ascL r [c]
def goodL (l : List Nat) : Bool := decide (1 ≤ l.length) && decide (l.length ≤ 4) && ascL l []
def sp_check_letters (A : Ad) : Sp := fun vs H Q E => ∃ l : List Nat, vs = [S l] ∧ l.length ≤ 100000 ∧ (goodL l = true → Q .non H) ∧ (goodL l = false → E (.ref A.c_BadLetters) none H)
theorem ok_check_letters {P : Program} {w : World} {K : PySem.W.Frag} {mg : Str → Option Value} {base : Heap} {A : Ad} (T : Txt P K mg A) : FnOk P w K mg base (L2.CX P w) 1 A.a_check_letters A.fd_check_letters ["letters"] (sp_check_letters A) := by
  refine T.F_check_letters.okX sc_check_letters (fun vs H Q E h => ?_) (fun cdv A' outer s H vs Q E hr h => ?_)
  · obtain ⟨l, rfl, _⟩ := h
    rfl
  · obtain ⟨l, rfl, hl, kT, kF⟩ := h
    have hu := hu_of hr
    refine ⟨_, (pss_cons (ps_if (PW.pt (pw_or (pt_cmpR op_lt (pe_callB call_len_str (by rfl) T.n_len bt_len (pa_cons (pv 0) pa_nil)) pe_int (nomark _)) (pw_or1 (pt_cmpR op_gt (pe_callB call_len_str (by rfl) T.n_len bt_len (pa_cons (pv 0) pa_nil)) (pe_glob (v := .int 4) rfl T.c_MOST_KINDS_OF_LETTERS ⟨_, rfl⟩) (nomark _)))))
    (pss_one (ps_raise rfl (takes_of rfl rfl rfl rfl) (pmk_own PySem.F.excBase_ValueError T.x_BadLetters T.g_BadLetters T.k_BadLetters (raises_own T.xb_BadLetters T.xt_BadLetters) rfl)))
    pss_nil)
    (pss_cons (ps_set (i := 1) sc_check_letters.nd rfl (Or.inl rfl) pe_str)
    (pss_one (ps_for (passes_of rfl) rfl (pi_str (pv 0)) (pg_name (i := 2) sc_check_letters.nd rfl (Or.inl rfl))
    (pss_cons (ps_if (PW.pt (pw_or (pt_cmpR op_notIn_sign (pv 2) (pe_glob (v := .str "abcdefghijklmnopqrstuvwxyz") rfl T.c_SMALL ⟨_, rfl⟩) rfl) (pw_or1 (pt_cmpR op_le_str (pv 2) (pv 1) (nomark _)))))
    (pss_one (ps_raise rfl (takes_of rfl rfl rfl rfl) (pmk_own PySem.F.excBase_ValueError T.x_BadLetters T.g_BadLetters T.k_BadLetters (raises_own T.xb_BadLetters T.xt_BadLetters) rfl)))
    pss_nil)
    (pss_one (ps_set (i := 1) sc_check_letters.nd rfl (Or.inl rfl) (pv 2)))))))),
      ?_⟩
    refine x_start (σ := [some (S l), none, none]) rfl ?_
    walk_at "sx"
    by_cases g1 : (l.length : Int) < 1
    · refine x_iteDT g1 ?_
      walk_at "sx"
      exact kF (by unfold goodL; rw [decide_eq_false (show ¬ 1 ≤ l.length by omega)]; rfl)
    refine x_iteDF g1 ?_
    walk_at "sx"
    by_cases g2 : (4 : Int) < (l.length : Int)
    · refine x_iteDT g2 ?_
      walk_at "sx"
      exact kF (by unfold goodL; rw [decide_eq_false (show ¬ l.length ≤ 4 by omega), Bool.and_false]; rfl)
    refine x_iteDF g2 ?_
    walk_at "sx"
    have e0 : goodL l = ascL l [] := by
      unfold goodL
      rw [decide_eq_true (show 1 ≤ l.length by omega), decide_eq_true (show l.length ≤ 4 by omega)]
      rfl
    rw [e0] at kT kF
    refine for_S (fun _ r σ H1 => ∃ (b : List Nat) (o : Option V), σ = [some (S l), some (S b), o] ∧ H1 = H ∧ ascL r b = ascL l []) ⟨[], none, rfl, rfl, rfl⟩ ?_ ?_
    · rintro p c r σ H1 - ⟨b, o, rfl, rfl, e⟩
      rw [ascL] at e
      walk_at "sx"
      refine x_iteN (fun c1 => ?_) (fun c1 => ?_)
      · walk_at "sx"
        exact kF (by rw [← e, decide_eq_false c1]; rfl)
      · walk_at "sx"
        refine x_iteN (fun c2 => ?_) (fun c2 => ?_)
        · walk_at "sx"
          exact kF (by rw [← e, decide_eq_false c2, Bool.and_false]; rfl)
        · walk_at "sx"
          exact ⟨_, _, rfl, rfl, by rw [← e, decide_eq_true c1, decide_eq_true c2]; rfl⟩
    · rintro σ H1 ⟨b, o, rfl, rfl, e⟩
      exact kT (by rw [← e]; rfl)

/-! BadWord's own __init__ -/
theorem ss_BadWord : SupScope ["self", "word", "place"] (defScope s_BadWord___init__) := ⟨rfl, rfl, rfl, by decide, by decide +kernel, by decide +kernel, by
  have h : ∀ q ∈ (defScope s_BadWord___init__).names, q.2 = .free → q.1 = "__class__" := by decide +kernel
  exact fun y e => h _ (PySem.mem_of_lookup e) rfl, by decide +kernel, by decide +kernel, rfl⟩
abbrev sp_BadWord___init__ (A : Ad) : Sp := spI2 A.c_BadWord "word" "place"
theorem ok_BadWord___init__ {P : Program} {w : World} {K : PySem.W.Frag} {mg : Str → Option Value} {base : Heap} {A : Ad} (T : Txt P K mg A) : FnOk P w K mg base CX0 1 A.a_BadWord___init__ A.fd_BadWord___init__ ["self", "word", "place"] (sp_BadWord___init__ A) := by
  obtain ⟨oc, od, an, osl, kV, dc, pm, ct, e, lk⟩ := T.l_BadWord___init__
  rw [e] at lk ⊢
  refine fn_super lk T.cd_BadWord___init__ ss_BadWord T.su_BadWord ⟨_, rfl, rfl⟩ (fun _ => ⟨_, rfl⟩) (fun vs H Q E h => ?_) (fun A' outer s H vs Q E h => ?_)
  · obtain ⟨a, x, y, rfl, _⟩ := h
    rfl
  · obtain ⟨a, x, y, rfl, ha, k⟩ := h
    refine ⟨a, [x, y], rfl, ha, _, pss_cons (ps_ost (pe_var (i := 0) rfl (Or.inl rfl)) (pe_var (i := 1) rfl (Or.inl rfl))) (pss_one (ps_ost (pe_var (i := 0) rfl (Or.inl rfl)) (pe_var (i := 2) rfl (Or.inl rfl)))), ?_⟩
    refine x_start (σ := [some (.ref a), some (x), some (y)]) rfl ?_
    refine x_seq ?_
    refine x_ost0 ?_
    walk_at "sx"
    refine ⟨a, _, rfl, T.ox_BadWord, T.no_BadWord_word, .inl ⟨ha, fun dx hd ne => ?_⟩⟩
    refine x_Dnx ?_
    refine x_ost0 ?_
    walk_at "sx"
    refine ⟨a, _, rfl, T.ox_BadWord, T.no_BadWord_place, .inr ⟨dx, _, upd_same, ?_, by simp, k dx hd ne⟩⟩
    rw [upd_ne ne, upd_same]

/-! BadText's own __init__ -/
theorem ss_BadText : SupScope ["self", "line"] (defScope s_BadText___init__) := ⟨rfl, rfl, rfl, by decide, by decide +kernel, by decide +kernel, by
  have h : ∀ q ∈ (defScope s_BadText___init__).names, q.2 = .free → q.1 = "__class__" := by decide +kernel
  exact fun y e => h _ (PySem.mem_of_lookup e) rfl, by decide +kernel, by decide +kernel, rfl⟩
abbrev sp_BadText___init__ (A : Ad) : Sp := spI1 A.c_BadText "line"
theorem ok_BadText___init__ {P : Program} {w : World} {K : PySem.W.Frag} {mg : Str → Option Value} {base : Heap} {A : Ad} (T : Txt P K mg A) : FnOk P w K mg base CX0 1 A.a_BadText___init__ A.fd_BadText___init__ ["self", "line"] (sp_BadText___init__ A) := by
  obtain ⟨oc, od, an, osl, kV, dc, pm, ct, e, lk⟩ := T.l_BadText___init__
  rw [e] at lk ⊢
  refine fn_super lk T.cd_BadText___init__ ss_BadText T.su_BadText ⟨_, rfl, rfl⟩ (fun _ => ⟨_, rfl⟩) (fun vs H Q E h => ?_) (fun A' outer s H vs Q E h => ?_)
  · obtain ⟨a, x, rfl, _⟩ := h
    rfl
  · obtain ⟨a, x, rfl, ha, k⟩ := h
    refine ⟨a, [x], rfl, ha, _, pss_one (ps_ost (pe_var (i := 0) rfl (Or.inl rfl)) (pe_var (i := 1) rfl (Or.inl rfl))), ?_⟩
    refine x_start (σ := [some (.ref a), some (x)]) rfl ?_
    refine x_ost0 ?_
    walk_at "sx"
    exact ⟨a, _, rfl, T.ox_BadText, T.no_BadText_line, .inl ⟨ha, k⟩⟩

/-! words over letters; views -/
def sp_check_word (A : Ad) : Sp := fun vs H Q E => ∃ lt l : List Nat, vs = [S lt, S l] ∧ l.length ≤ 100000 ∧ lt.length ≤ 100000 ∧ (bwGo lt 0 l = none → ∀ H', Ex H H' → Q .non H') ∧
  (∀ i : Nat, bwGo lt 0 l = some i → ∀ d H', Ex H H' → H' d = some (.xd [("place", .int (i : Nat)), ("word", S l)]) → E (.ref A.c_BadWord) (some d) H')
theorem ok_check_word {P : Program} {w : World} {K : PySem.W.Frag} {mg : Str → Option Value} {base : Heap} {A : Ad} (T : Txt P K mg A) : FnOk P w K mg base (L2.CX P w) 3 A.a_check_word A.fd_check_word ["letters", "word"] (sp_check_word A) := by
  refine T.F_check_word.okX sc_check_word (fun vs H Q E h => ?_) (fun cdv A' outer s H vs Q E hr h => ?_)
  · obtain ⟨lt, l, rfl, _⟩ := h
    rfl
  · obtain ⟨lt, l, rfl, hl, hlt, k1, k2⟩ := h
    have hu := hu_of hr
    refine ⟨_, (pss_one (ps_for (passes_of rfl) rfl (pi_enumS (by rfl) T.n_enumerate (pa_cons (pv 1) pa_nil)) (pg_tup rfl (pgs_cons (pg_name (i := 2) sc_check_word.nd rfl (Or.inl rfl)) (pgs_cons (pg_name (i := 3) sc_check_word.nd rfl (Or.inl rfl)) pgs_nil)))
    (pss_one (ps_if (pt_cmpR op_notIn_sign (pv 3) (pv 0) rfl)
    (pss_one (ps_raise rfl (takes_of rfl rfl rfl rfl) (pmk_oex T.ox_BadWord T.xi_BadWord T.xti_BadWord (ok_BadWord___init__ (w := w) T) (hr.mono (by decide)) T.b_BadWord___init__ .nil pass0 rfl T.g_BadWord (pa_cons (pv 1) (pa_cons (pv 2) pa_nil)))))
    pss_nil)))),
      ?_⟩
    refine x_start (σ := [some (S lt), some (S l), none, none]) rfl ?_
    walk_at "sx"
    refine for_EnS (K := K) (l := l) (fun p r σ H1 => ∃ o1 o2 : Option V, σ = [some (S lt), some (S l), o1, o2] ∧ Ex H H1 ∧ bwGo lt p.length r = bwGo lt 0 l) ⟨none, none, rfl, Ex.refl H, rfl⟩ ?_ ?_
    · rintro p c r σ H1 T el ⟨o1, o2, rfl, ex, hb⟩ hT
      rw [bwGo] at hb
      have exT := ex.new (o := .tup [.int (p.length : Nat), S [c]]) hT
      walk_at "sx"
      refine x_iteN (fun c1 => ?_) (fun c1 => ?_)
      · rw [if_neg c1] at hb
        walk_at "sx"
        exact x_mk2 fun d H2 _ e2 h2 => k2 p.length hb.symm d H2 (exT.trans e2) h2
      · rw [if_pos c1] at hb
        walk_at "sx"
        exact ⟨_, _, rfl, exT, by rw [List.length_append]; exact hb⟩
    · rintro σ H1 ⟨o1, o2, rfl, ex, hb⟩
      exact k1 hb.symm H1 ex
def sp_view_at : Sp := fun vs H Q _ => ∃ (w : List Nat) (a n : Nat), vs = [S w, .int (a : Nat), .int (n : Nat)] ∧ w.length ≤ 100000 ∧ a ≤ 100000 ∧ n ≤ 100000 ∧ Q (S (view w a n)) H
abbrev sp__law_view : Sp := sp_view_at
theorem view_cut (w : List Nat) (a n : Nat) : cutN w (some (max 0 ((a : Int) - (n : Int) + 1))) (some ((a : Int) + 1)) = view w a n := by
  have e1 : max 0 ((a : Int) - (n : Int) + 1) = ((a + 1 - n : Nat) : Int) := by omega
  have e2 : ((a : Int) + 1) = ((a + 1 : Nat) : Int) := by omega
  rw [e1, e2, cutN_both]
  rfl
theorem ok_view_at {P : Program} {w : World} {K : PySem.W.Frag} {mg : Str → Option Value} {base : Heap} {A : Ad} (T : Txt P K mg A) : FnOk P w K mg base CX0 1 A.a_view_at A.fd_view_at ["word", "at", "size"] sp_view_at := by
  refine T.F_view_at.ok sc_view_at (fun vs H Q E h => ?_) (fun cdv A' outer s H vs Q E hr h => ?_)
  · obtain ⟨w, a, n, rfl, _⟩ := h
    rfl
  · obtain ⟨w, a, n, rfl, hw, ha, hn, k⟩ := h
    have hu := hu_of hr
    refine ⟨_, (pss_one (ps_ret (pe_slice sl_str (pv 0) (po_some (pe_callB (call_max2 rfl) (by rfl) T.n_max bt_max (pa_cons pe_int (pa_cons (pe_op op_add (pe_op op_sub (pv 1) (pv 2)) pe_int) pa_nil)))) (po_some (pe_op op_add (pv 1) pe_int))))),
      ?_⟩
    refine x_start (σ := [some (S w), some (.int (a : Nat)), some (.int (n : Nat))]) rfl ?_
    walk_at "sx"
    rw [view_cut]
    exact k
theorem ok__law_view {P : Program} {w : World} {K : PySem.W.Frag} {mg : Str → Option Value} {base : Heap} {A : Ad} (T : Txt P K mg A) : FnOk P w K mg base CX0 1 A.a__law_view A.fd__law_view ["word", "at", "size"] sp__law_view := by
  refine T.F__law_view.ok sc__law_view (fun vs H Q E h => ?_) (fun cdv A' outer s H vs Q E hr h => ?_)
  · obtain ⟨w, a, n, rfl, _⟩ := h
    rfl
  · obtain ⟨w, a, n, rfl, hw, ha, hn, k⟩ := h
    have hu := hu_of hr
    refine ⟨_, (pss_one (ps_ret (pe_slice sl_str (pv 0) (po_some (pe_callB (call_max2 rfl) (by rfl) T.n_max bt_max (pa_cons pe_int (pa_cons (pe_op op_add (pe_op op_sub (pv 1) (pv 2)) pe_int) pa_nil)))) (po_some (pe_op op_add (pv 1) pe_int))))),
      ?_⟩
    refine x_start (σ := [some (S w), some (.int (a : Nat)), some (.int (n : Nat))]) rfl ?_
    walk_at "sx"
    rw [view_cut]
    exact k
/-! turners -/
def TurnAt (A : Ad) (H : Hp) (p : Addr) (lt im : List Nat) (n : Nat) (es : List EN) : Prop := ∃ dx ta, H p = some (.ins A.c_Turner dx [("letters", S lt), ("images", S im), ("size", .int (n : Nat)), ("table", .ref ta)]) ∧ H ta = some (.dK (tabK es))
theorem TurnAt.ex {A : Ad} {H H' : Hp} {p : Addr} {lt im : List Nat} {n : Nat} {es : List EN} (h : TurnAt A H p lt im n es) (e : Ex H H') : TurnAt A H' p lt im n es := by
  obtain ⟨dx, ta, h1, h2⟩ := h
  exact ⟨dx, ta, e _ _ h1, e _ _ h2⟩
def sp_Turner___init__ (A : Ad) : Sp := fun vs H Q E => ∃ (p dx d : Addr) (lt im : List Nat) (n : Nat) (es : List EN), vs = [.ref p, S lt, S im, .int (n : Nat), .ref d] ∧ H p = some (.ins A.c_Turner dx []) ∧ H d = some (.dK (tabK es)) ∧ lt.length ≤ 100000 ∧ im.length ≤ 100000 ∧ goodL lt = true ∧ goodL im = true ∧ es.length ≤ 1000000 ∧
  ∀ H', (∀ a o, a ≠ p → H a = some o → H' a = some o) → TurnAt A H' p lt im n es → Q .non H'
theorem ok_Turner___init__ {P : Program} {w : World} {K : PySem.W.Frag} {mg : Str → Option Value} {base : Heap} {A : Ad} (T : Txt P K mg A) : FnOk P w K mg base (L2.CX P w) 2 A.a_Turner___init__ A.fd_Turner___init__ ["self", "letters", "images", "size", "table"] (sp_Turner___init__ A) := by
  refine T.F_Turner___init__.okX sc_Turner___init__ (fun vs H Q E h => ?_) (fun cdv A' outer s H vs Q E hr h => ?_)
  · obtain ⟨p, dx, d, lt, im, n, es, rfl, _⟩ := h
    rfl
  · obtain ⟨p, dx, d, lt, im, n, es, rfl, hp, hd, hlt, him, g1, g2, hz, k⟩ := h
    have hu := hu_of hr
    refine ⟨_, (pss_cons (ps_expr (pe_call (ok_check_letters (w := w) T) (hr.mono (by decide)) rfl T.g_check_letters T.F_check_letters.kp T.b_check_letters .nil (passes_call (takes_of rfl rfl rfl rfl) fun _ _ _ _ h => h) (pa_cons (pv 1) pa_nil)))
    (pss_cons (ps_expr (pe_call (ok_check_letters (w := w) T) (hr.mono (by decide)) rfl T.g_check_letters T.F_check_letters.kp T.b_check_letters .nil (passes_call (takes_of rfl rfl rfl rfl) fun _ _ _ _ h => h) (pa_cons (pv 2) pa_nil)))
    (pss_cons (ps_fld (pv 0) (pv 1) rfl)
    (pss_cons (ps_fld (pv 0) (pv 2) rfl)
    (pss_cons (ps_fld (pv 0) (pv 3) rfl)
    (pss_one (ps_fld (pv 0) (pe_callTy call_dictD (by rfl) T.n_dict bt_dict (pa_cons (pv 4) pa_nil)) rfl))))))),
      ?_⟩
    refine x_start (σ := [some (.ref p), some (S lt), some (S im), some (.int (n : Nat)), some (.ref d)]) rfl ?_
    have ndp : d ≠ p := fun e => by rw [e, hp] at hd; cases hd
    walk_at "sx"
    refine ⟨lt, rfl, hlt, fun _ => ?_, fun z => absurd z (by rw [g1]; decide)⟩
    walk_at "sx"
    refine ⟨im, rfl, him, fun _ => ?_, fun z => absurd z (by rw [g2]; decide)⟩
    walk_at "sx"
    refine x_qSFld T.cl_Turner T.nf_Turner_letters hp (by decide) fun H1 h1 k1 => ?_
    walk_at "sx"
    refine x_qSFld T.cl_Turner T.nf_Turner_images h1 (show (1 : Nat) < 1000 by decide) fun H2 h2 k2 => ?_
    walk_at "sx"
    refine x_qSFld T.cl_Turner T.nf_Turner_size h2 (show (2 : Nat) < 1000 by decide) fun H3 h3 k3 => ?_
    have k03 : ∀ a, a ≠ p → H3 a = H a := fun a h => by rw [k3 a h, k2 a h, k1 a h]
    walk_at "sx"
    refine x_dictD (by rw [k03 d ndp]; exact hd) fun t H4 f4 e4 h4 => ?_
    have ntp : t ≠ p := fun e => by rw [e, h3] at f4; cases f4
    walk_at "sx"
    refine x_qSFld T.cl_Turner T.nf_Turner_table (e4 _ _ h3) (show (3 : Nat) < 1000 by decide) fun H5 h5 k5 => ?_
    walk_at "sx"
    exact k H5 (fun a o h q => by rw [k5 a h]; exact e4 _ _ (by rw [k03 a h]; exact q)) ⟨dx, t, h5, by rw [k5 t ntp]; exact h4⟩
theorem x_mkTurn {A : Ad} {H : Hp} {Q : VK} {E : XK} {d : Addr} {lt im : List Nat} {n : Nat} {es : List EN} (hd : H d = some (.dK (tabK es))) (hlt : lt.length ≤ 100000) (him : im.length ≤ 100000) (g1 : goodL lt = true) (g2 : goodL im = true) (hz : es.length ≤ 1000000)
    (k : ∀ r H', H r = none → Ex H H' → TurnAt A H' r lt im n es → Q (.ref r) H') : qMakeS A.c_Turner (sp_Turner___init__ A) E Q [S lt, S im, .int (n : Nat), .ref d] H := by
  refine x_qMakeS fun x dx H1 hx hdx e1 h1 _ => ⟨x, dx, d, lt, im, n, es, rfl, h1, e1 _ _ hd, hlt, him, g1, g2, hz, fun H' k' hs => ⟨rfl, ?_⟩⟩
  exact k x H' hx (fun c o h => k' c o (fun z => by rw [z, hx] at h; cases h) (e1 _ _ h)) hs
def tellI : Option (List Nat) → V
  | none => .non
  | some l => S l
def sp_Turner___call__ (A : Ad) : Sp := fun vs H Q _ => ∃ (p : Addr) (lt im u : List Nat) (n : Nat) (es : List EN), vs = [.ref p, S u] ∧ TurnAt A H p lt im n es ∧ lt.length ≤ 100000 ∧ u.length ≤ 1000 ∧ n ≤ 1000 ∧ bwGo lt 0 u = none ∧ ∀ H', Ex H H' → Q (tellI (image es n u)) H'
theorem ok_Turner___call__ {P : Program} {w : World} {K : PySem.W.Frag} {mg : Str → Option Value} {base : Heap} {A : Ad} (T : Txt P K mg A) : FnOk P w K mg base (L2.CX P w) 4 A.a_Turner___call__ A.fd_Turner___call__ ["self", "word"] (sp_Turner___call__ A) := by
  refine T.F_Turner___call__.okX sc_Turner___call__ (fun vs H Q E h => ?_) (fun cdv A' outer s H vs Q E hr h => ?_)
  · obtain ⟨p, lt, im, u, n, es, rfl, _⟩ := h
    rfl
  · obtain ⟨p, lt, im, u, n, es, rfl, ht, hlt, hw, hn, hb, k⟩ := h
    have hu := hu_of hr
    refine ⟨_, (pss_cons (ps_expr (pe_call (ok_check_word (w := w) T) (hr.mono (by decide)) rfl T.g_check_word T.F_check_word.kp T.b_check_word .nil (passes_call (takes_of rfl rfl rfl rfl) fun _ _ _ _ h => h) (pa_cons (pe_fld (pv 0) rfl) (pa_cons (pv 1) pa_nil))))
    (pss_cons (ps_set (i := 2) sc_Turner___call__.nd rfl (Or.inl rfl) pe_str)
    (pss_cons (ps_for (passes_of rfl) rfl (pi_range1 (by rfl) T.n_range (pa_cons (pe_callB call_len_str (by rfl) T.n_len bt_len (pa_cons (pv 1) pa_nil)) pa_nil)) (pg_name (i := 3) sc_Turner___call__.nd rfl (Or.inl rfl))
    (pss_cons (ps_set (i := 4) sc_Turner___call__.nd rfl (Or.inl rfl) (pe_call (ok_view_at (w := w) T) (hr.mono (by decide)) rfl T.g_view_at T.F_view_at.kp T.b_view_at .nil pass0 (pa_cons (pv 1) (pa_cons (pv 3) (pa_cons (pe_fld (pv 0) rfl) pa_nil)))))
    (pss_cons (ps_if (pt_cmp (pc_dnotin hu (pv 4) (pe_fld (pv 0) rfl)))
    (pss_one (ps_ret pe_non))
    pss_nil)
    (pss_one (ps_set (i := 2) sc_Turner___call__.nd rfl (Or.inl rfl) (pe_op op_add_str (pv 2) (pe_dget hu (pe_fld (pv 0) rfl) (pv 4) (fun _ _ => rfl))))))))
    (pss_one (ps_ret (pv 2)))))),
      ?_⟩
    refine x_start (σ := [some (.ref p), some (S u), none, none, none]) rfl ?_
    obtain ⟨dx, ta, h1, h2⟩ := id ht
    walk_at "sx"
    refine x_qFld T.cl_Turner T.nf_Turner_letters h1 rfl ?_
    walk_at "sx"
    refine ⟨lt, u, rfl, by omega, hlt, fun _ H1 e1 => ?_, fun i z => absurd z (by rw [hb]; exact fun y => nomatch y)⟩
    walk_at "sx"
    rw [Int.toNat_natCast]
    refine for_R (fun i σ H2 => ∃ (acc : List Nat) (o3 o4 : Option V), σ = [some (.ref p), some (S u), some (S acc), o3, o4] ∧ Ex H H2 ∧ acc.length = i ∧ imgN es n u (u.length - i) i acc = image es n u) ⟨[], _, _, rfl, e1, rfl, rfl⟩ ?_ ?_
    · rintro i σ H2 hi ⟨acc, o3, o4, rfl, e2, hal, him⟩
      rw [show u.length - i = (u.length - (i + 1)) + 1 by omega, imgN] at him
      have m1 := e2 _ _ h1
      have m2 := e2 _ _ h2
      walk_at "sx"
      rw [Int.zero_add]
      refine x_qFld T.cl_Turner T.nf_Turner_size m1 rfl ?_
      walk_at "sx"
      refine ⟨u, i, n, rfl, by omega, by omega, by omega, ?_⟩
      have tl := tabK_look es (view u i n)
      walk_at "sx"
      refine x_qFld T.cl_Turner T.nf_Turner_table m1 rfl ?_
      refine x_qDNotIn m2 ?_
      rw [tl]
      cases hl : look es (view u i n) with
      | none =>
        rw [hl] at him
        refine ⟨true, rfl, ?_⟩
        rw [if_pos rfl]
        have q := k H2 e2
        rw [← him] at q
        walk_at "sx"
        exact q
      | some s =>
        rw [hl] at him tl
        refine ⟨false, rfl, ?_⟩
        rw [if_neg (by decide)]
        walk_at "sx"
        refine x_qFld T.cl_Turner T.nf_Turner_table m1 rfl ?_
        walk_at "sx"
        refine x_qDGetS m2 tl ?_
        refine x_addS (by rw [List.length_singleton]; omega) ?_
        walk_at "sx"
        exact ⟨acc ++ [s], _, _, rfl, e2, by rw [List.length_append, hal]; rfl, him⟩
    · rintro σ H2 ⟨acc, o3, o4, rfl, e2, hal, him⟩
      rw [Nat.sub_self, imgN] at him
      have q := k H2 e2
      rw [← him] at q
      walk_at "sx"
      exact q

end TY

namespace TY
open PySem PyProof.Rows PySem.Spec L2 L2H
local macro_rules | `(tactic| walk_at "tylit") => `(tactic| first | exact lit_0 | exact lit_1 | exact lit_2 | exact lit_3 | exact lit_4 | exact lit_5 | exact lit_6 | exact lit_7 | exact lit_8 | exact lit_9 | exact lit_10 | exact lit_11 | exact lit_12 | exact lit_13 | exact lit_14 | exact lit_15 | exact lit_16 | exact lit_17 | exact lit_18 | exact lit_19 | exact lit_20 | exact lit_21 | exact lit_22)
/-! the word: one step; all steps -/
local macro_rules | `(tactic| walk_at "tysq") => `(tactic| first | assumption | exact Or.inl (Or.inl (by assumption)) | exact Or.inl (Or.inl upd_same))
local macro_rules | `(tactic| walk_at "tysqT") => `(tactic| first | assumption | exact Or.inl (Or.inl (by assumption)) | exact Or.inl (Or.inl upd_same))
local macro_rules | `(tactic| walk_at "tyhp") => `(tactic| first | assumption | exact upd_same)
local macro_rules | `(tactic| walk_at "tyc") => `(tactic| first | decide | assumption | omega | (simp only [List.length_map, List.length_append, List.length_cons, List.length_nil]; omega) | exact Or.inl ⟨by omega, by omega⟩ | exact ⟨by omega, by omega⟩ | exact ⟨by decide, by decide⟩)
local macro_rules | `(tactic| walk_at "sx1") => `(tactic| first
  | with_reducible refine x_seq ?_ | with_reducible refine x_next ?_ | with_reducible refine x_Dnx ?_ | with_reducible refine x_Drt ?_
  | with_reducible refine x_asg ?_ | ((with_reducible refine x_gname ?_); try dsimp only [List.set_cons_zero, List.set_cons_succ]) | with_reducible refine x_drop ?_ | with_reducible refine x_ret ?_
  | with_reducible refine x_ifS ?_ | with_reducible refine x_ifE ?_ | ((with_reducible apply x_var); (first | rfl | assumption)) | ((with_reducible apply x_cStr); with_reducible walk_at "tylit") | with_reducible refine x_c ?_
  | with_reducible refine l_addS ?_ | with_reducible refine l_inSign ?_ | with_reducible refine l_niSign ?_ | with_reducible refine l_repS ?_ | with_reducible refine x_then ?_ | with_reducible refine x_iTup ?_ | ((with_reducible apply x_gTup); (walk_at "tysqT"); rfl) | with_reducible refine x_gC ?_ | with_reducible refine x_gN ?_ | with_reducible refine x_nget ?_ | with_reducible refine x_nin ?_ | with_reducible refine x_nput ?_ | with_reducible refine x_nget2 ?_ | with_reducible refine x_inO ?_ | with_reducible refine x_callOA ?_ | with_reducible refine x_setd ?_ | with_reducible refine l_dictD ?_ | with_reducible refine x_din ?_ | with_reducible refine x_dnotin ?_ | with_reducible refine l_repA ?_ | with_reducible refine l_leS ?_ | with_reducible refine l_isN ?_ | with_reducible refine l_notN ?_
  | with_reducible refine x_op ?_ | with_reducible refine x_un ?_ | with_reducible refine x_I0 ?_ | ((with_reducible apply x_I); walk_at "tyc") | with_reducible refine x_U ?_
  | with_reducible refine x_eqI ?_ | with_reducible refine x_neI ?_ | with_reducible refine x_eqOne ?_ | with_reducible refine x_eqSt ?_ | with_reducible refine x_neSt ?_ | with_reducible refine x_eqS ?_ | with_reducible refine x_neS ?_
  | with_reducible refine x_test ?_ | with_reducible refine x_tB ?_ | with_reducible refine x_bl ?_ | with_reducible refine x_bl2 ?_
  | with_reducible refine x_yes ?_ | with_reducible refine x_and ?_ | with_reducible refine x_or ?_ | with_reducible refine x_not ?_ | with_reducible refine x_andV ?_ | with_reducible refine x_orV ?_ | with_reducible refine x_notV ?_
  | with_reducible refine x_nil ?_ | with_reducible refine x_cons ?_ | with_reducible refine l_len ?_ | with_reducible refine l_lenS ?_ | with_reducible refine l_int1 ?_ | with_reducible refine l_abs ?_ | with_reducible refine l_max2 ?_ | with_reducible refine l_min2 ?_ | with_reducible refine l_list ?_ | with_reducible refine l_listD ?_ | with_reducible refine l_strI ?_ | with_reducible refine x_cb ?_ | with_reducible refine x_call ?_ | with_reducible refine x_callS ?_ | with_reducible refine x_callE ?_
  | ((with_reducible apply x_aug); (first | rfl | assumption)) | with_reducible refine x_ipI ?_ | with_reducible refine x_sl ?_ | with_reducible refine x_nopart ?_ | with_reducible refine x_part ?_ | with_reducible refine x_int ?_
  | with_reducible refine x_gsub ?_ | with_reducible refine x_bm ?_ | with_reducible refine x_bm0 ?_ | with_reducible refine l_upper ?_ | with_reducible refine l_join ?_ | with_reducible refine l_index ?_ | with_reducible refine x_m0 ?_ | with_reducible refine x_m1 ?_ | with_reducible refine x_strA ?_ | with_reducible refine x_augS ?_
  | ((with_reducible apply x_tyL); walk_at "tysq")
  | ((with_reducible apply x_addS); walk_at "tyc") | with_reducible refine x_inSign ?_ | with_reducible refine x_niSign ?_ | with_reducible refine x_leS ?_ | with_reducible refine x_isN ?_ | with_reducible refine x_notN ?_ | with_reducible refine x_max2 ?_ | with_reducible refine x_min2 ?_
  | ((with_reducible apply x_lenS); walk_at "tyc") | ((with_reducible apply x_lenL); walk_at "tysq")
  | with_reducible refine x_int1 ?_ | with_reducible refine x_abs ?_
  | ((with_reducible apply x_ixL); walk_at "tysq"; rfl) | ((with_reducible apply x_setL); walk_at "tyhp"; rfl)
  | with_reducible refine x_lc ?_ | with_reducible refine x_for ?_ | with_reducible refine x_iStr ?_ | with_reducible refine x_qStr ?_ | with_reducible refine x_iLst ?_ | ((with_reducible apply x_qLst); walk_at "tysq")
  | with_reducible refine x_iRng1 ?_ | with_reducible refine x_iRng2 ?_ | ((with_reducible apply x_qRng1); walk_at "tyc") | ((with_reducible apply x_qRng2); walk_at "tyc") | with_reducible refine x_iEnS ?_ | with_reducible refine x_qEnS ?_
  | ((with_reducible apply x_slS); walk_at "tyc")
  | with_reducible refine x_lst ?_ | with_reducible refine x_tup ?_
  | with_reducible refine x_listZip ?_ | with_reducible refine x_iRev ?_ | ((with_reducible apply x_qRev); walk_at "tysq") | with_reducible refine x_dget ?_ | with_reducible refine x_dput ?_ | with_reducible refine x_tern ?_ | with_reducible refine x_replA ?_ | with_reducible refine x_replC ?_ | with_reducible refine x_sl3 ?_ | with_reducible refine x_iEnL ?_ | with_reducible refine x_lc2 ?_ | with_reducible refine x_ckw ?_ | with_reducible refine x_eqB ?_ | with_reducible refine x_fld ?_ | with_reducible refine x_sfld ?_ | with_reducible refine x_makeS ?_ | with_reducible refine x_methA ?_ | with_reducible refine x_fmt ?_ | with_reducible refine x_js0 ?_ | with_reducible refine x_js ?_ | ((with_reducible apply x_qJs); walk_at "tyc") | with_reducible refine x_jsE ?_ | with_reducible refine x_mkO ?_ | ((with_reducible apply x_ixT); walk_at "tysqT"; rfl)
  | with_reducible refine x_iteT ?_ | with_reducible refine x_iteF ?_ | with_reducible refine x_iteNT' ?_ | with_reducible refine x_iteNF' ?_)
local macro_rules | `(tactic| walk_at "sx") => `(tactic| repeat walk_at "sx1")
local macro_rules | `(tactic| walk_at "sxi") => `(tactic| repeat (first
  | with_reducible refine x_seq ?_ | with_reducible refine x_next ?_ | with_reducible refine x_Dnx ?_ | with_reducible refine x_Drt ?_ | with_reducible refine x_asg ?_ | ((with_reducible refine x_gname ?_); try dsimp only [List.set_cons_zero, List.set_cons_succ]) | with_reducible refine x_drop ?_ | with_reducible refine x_ifS ?_))
local macro_rules | `(tactic| walk_at "sxn") => `(tactic| repeat (first
  | with_reducible refine x_next ?_ | with_reducible refine x_Dnx ?_ | with_reducible refine x_Drt ?_ | with_reducible refine x_asg ?_ | ((with_reducible refine x_gname ?_); try dsimp only [List.set_cons_zero, List.set_cons_succ]) | with_reducible refine x_drop ?_))
/-! pairs -/
abbrev AP := Addr × PT
abbrev prefs (as : List AP) : List V := as.map fun z => V.ref z.1
def PairAt (H : Hp) (z : AP) : Prop := H z.1 = some (.tup [S z.2.1, S z.2.2])
def PairsIn (H : Hp) (q : Addr) (P : List PT) : Prop := ∃ as : List AP, as.map (fun z => z.2) = P ∧ H q = some (.lst (prefs as)) ∧ ∀ z ∈ as, PairAt H z
theorem PairsIn.ex {H H' : Hp} {q : Addr} {P : List PT} (h : PairsIn H q P) (e : Ex H H') : PairsIn H' q P := by
  obtain ⟨as, h1, h2, h3⟩ := h
  exact ⟨as, h1, e _ _ h2, fun z hz => e _ _ (h3 z hz)⟩
def PBnd (P : List PT) : Prop := P.length ≤ 100 ∧ ∀ p ∈ P, p.1.length ≤ 1000 ∧ p.2.length ≤ 1000
def errP (A : Ad) (E : XK) (H : Hp) : Option Bad → Prop
  | none => True
  | some (.word t i) => ∀ d H', Ex H H' → H' d = some (.xd [("place", .int (i : Nat)), ("word", S t)]) → E (.ref A.c_BadWord) (some d) H'
  | some (.text k) => ∀ d H', Ex H H' → H' d = some (.xd [("line", .int (k : Nat))]) → E (.ref A.c_BadText) (some d) H'
def sp_check_pairs (A : Ad) : Sp := fun vs H Q E => ∃ (q : Addr) (lt im : List Nat) (P : List PT), vs = [S lt, S im, .ref q] ∧ PairsIn H q P ∧ goodL lt = true ∧ goodL im = true ∧ lt.length ≤ 1000 ∧ im.length ≤ 1000 ∧ PBnd P ∧
  (pGo lt im 0 P = none → ∀ H', Ex H H' → Q .non H') ∧ errP A E H (pGo lt im 0 P)
theorem ok_check_pairs {P : Program} {w : World} {K : PySem.W.Frag} {mg : Str → Option Value} {base : Heap} {A : Ad} (T : Txt P K mg A) : FnOk P w K mg base (L2.CX P w) 4 A.a_check_pairs A.fd_check_pairs ["letters", "images", "pairs"] (sp_check_pairs A) := by
  refine T.F_check_pairs.okX sc_check_pairs (fun vs H Q E h => ?_) (fun cdv A' outer s H vs Q E hr h => ?_)
  · obtain ⟨q, lt, im, P0, rfl, _⟩ := h
    rfl
  · obtain ⟨q, lt, im, P0, rfl, hq, g1, g2, hlt, him, hz, kT, kE⟩ := h
    have hu := hu_of hr
    refine ⟨_, (pss_cons (ps_expr (pe_call (ok_check_letters (w := w) T) (hr.mono (by decide)) rfl T.g_check_letters T.F_check_letters.kp T.b_check_letters .nil (passes_call (takes_of rfl rfl rfl rfl) fun _ _ _ _ h => h) (pa_cons (pv 0) pa_nil)))
    (pss_cons (ps_expr (pe_call (ok_check_letters (w := w) T) (hr.mono (by decide)) rfl T.g_check_letters T.F_check_letters.kp T.b_check_letters .nil (passes_call (takes_of rfl rfl rfl rfl) fun _ _ _ _ h => h) (pa_cons (pv 1) pa_nil)))
    (pss_one (ps_for (passes_of rfl) rfl (pi_enum (by rfl) T.n_enumerate (pa_cons (pv 2) pa_nil)) (pg_tup rfl (pgs_cons (pg_name (i := 3) sc_check_pairs.nd rfl (Or.inl rfl)) (pgs_cons (pg_name (i := 4) sc_check_pairs.nd rfl (Or.inl rfl)) pgs_nil)))
    (pss_cons (ps_expr (pe_call (ok_check_word (w := w) T) (hr.mono (by decide)) rfl T.g_check_word T.F_check_word.kp T.b_check_word .nil (passes_call (takes_of rfl rfl rfl rfl) fun _ _ _ _ h => h) (pa_cons (pv 0) (pa_cons (pe_ix (show IxR _ (rIxT K) from ix_tup) (pv 4) pe_int (fun _ _ => rfl)) pa_nil))))
    (pss_cons (ps_expr (pe_call (ok_check_word (w := w) T) (hr.mono (by decide)) rfl T.g_check_word T.F_check_word.kp T.b_check_word .nil (passes_call (takes_of rfl rfl rfl rfl) fun _ _ _ _ h => h) (pa_cons (pv 1) (pa_cons (pe_ix (show IxR _ (rIxT K) from ix_tup) (pv 4) pe_int (fun _ _ => rfl)) pa_nil))))
    (pss_one (ps_if (pt_cmpR op_ne (pe_callB call_len_str (by rfl) T.n_len bt_len (pa_cons (pe_ix (show IxR _ (rIxT K) from ix_tup) (pv 4) pe_int (fun _ _ => rfl)) pa_nil)) (pe_callB call_len_str (by rfl) T.n_len bt_len (pa_cons (pe_ix (show IxR _ (rIxT K) from ix_tup) (pv 4) pe_int (fun _ _ => rfl)) pa_nil)) (nomark _))
    (pss_one (ps_raise rfl (takes_of rfl rfl rfl rfl) (pmk_oex T.ox_BadText T.xi_BadText T.xti_BadText (ok_BadText___init__ (w := w) T) (hr.mono (by decide)) T.b_BadText___init__ .nil pass0 rfl T.g_BadText (pa_cons (pv 3) pa_nil))))
    pss_nil)))))))),
      ?_⟩
    refine x_start (σ := [some (S lt), some (S im), some (.ref q), none, none]) rfl ?_
    obtain ⟨as, rfl, hq2, hra⟩ := id hq
    walk_at "sx"
    refine ⟨lt, rfl, by omega, fun _ => ?_, fun z => absurd z (by rw [g1]; decide)⟩
    walk_at "sx"
    refine ⟨im, rfl, by omega, fun _ => ?_, fun z => absurd z (by rw [g2]; decide)⟩
    walk_at "sx"
    refine x_qEnL (.inl (.inl hq2)) ?_
    refine for_EnL (l := as) (enc := fun z => V.ref z.1) (fun u r σ H3 => ∃ (o3 o4 : Option V), σ = [some (S lt), some (S im), some (.ref q), o3, o4] ∧ Ex H H3 ∧ pGo lt im u.length (r.map fun z => z.2) = pGo lt im 0 (as.map fun z => z.2))
      ⟨_, _, rfl, Ex.refl _, rfl⟩ (fun _ _ _ _ ⟨_, _, _, e, _⟩ => .inl (.inl (e _ _ hq2))) ?_ ?_
    · rintro u z r σ H3 T H4 el ⟨o3, o4, rfl, e3, hb⟩ fT e4 hTT
      have e04 := e3.trans e4
      have z1 : H4 z.1 = some (.tup [S z.2.1, S z.2.2]) := e04 _ _ (hra z (by rw [el]; simp))
      obtain ⟨zl1, zl2⟩ := hz.2 z.2 (by rw [el]; simp)
      rw [List.map_cons, pGo] at hb
      walk_at "sx"
      refine ⟨lt, z.2.1, rfl, by omega, by omega, fun hb1 H5 e5 => ?_, fun i hb1 d H5 e5 hd => ?_⟩
      rotate_left
      · rw [hb1] at hb
        rw [← hb] at kE
        exact kE d H5 (e04.trans e5) hd
      rw [hb1] at hb
      dsimp only at hb
      have z15 := e5 _ _ z1
      walk_at "sx"
      refine ⟨im, z.2.2, rfl, by omega, by omega, fun hb2 H6 e6 => ?_, fun i hb2 d H6 e6 hd => ?_⟩
      rotate_left
      · rw [hb2] at hb
        rw [← hb] at kE
        exact kE d H6 ((e04.trans e5).trans e6) hd
      rw [hb2] at hb
      dsimp only at hb
      have z16 := e6 _ _ z15
      walk_at "sx"
      refine x_iteN (fun c1 => ?_) (fun c1 => ?_)
      · rw [if_pos (by omega)] at hb
        rw [← hb] at kE
        walk_at "sx"
        exact x_mk1 fun d H7 _ e7 h7 => kE d H7 (((e04.trans e5).trans e6).trans e7) h7
      · rw [if_neg (by omega)] at hb
        walk_at "sx"
        exact ⟨_, _, rfl, (e04.trans e5).trans e6, by rw [List.length_append]; exact hb⟩
    · rintro σ H3 ⟨o3, o4, rfl, e3, hb⟩
      exact kT hb.symm H3 e3
/-! the first clash -/
def sgn (P : List PT) (i a : Nat) : Nat := ((P.getD i ([], [])).2).getD a 0
def PlaceOk (P : List PT) (n : Nat) (v : List Nat) (i a : Nat) : Prop := ∃ p, P[i]? = some p ∧ a < p.1.length ∧ view p.1 a n = v
def sp_first_clash : Sp := fun vs H Q _ => ∃ (q : Addr) (n : Nat) (P : List PT), vs = [.ref q, .int (n : Nat)] ∧ PairsIn H q P ∧ PBnd P ∧ n ≤ 1000 ∧ (∀ p ∈ P, p.1.length = p.2.length) ∧
  (clashGo [] (ents n P) = false → ∀ H', Ex H H' → Q .non H') ∧
  (clashGo [] (ents n P) = true → ∀ (r r1 r2 : Addr) (i a j b : Nat) (v : List Nat) (H' : Hp), Ex H H' → H' r = some (.tup [.ref r1, .ref r2]) → H' r1 = some (.tup [.int (i : Nat), .int (a : Nat)]) → H' r2 = some (.tup [.int (j : Nat), .int (b : Nat)]) → PlaceOk P n v i a → PlaceOk P n v j b → sgn P i a ≠ sgn P j b → Q (.ref r) H')
theorem x_qSetd3 {H : Hp} {Q : VK} {a : Addr} {kvs : List (Key × V)} {l : List Nat} {z : V} (hd : H a = some (.dK kvs)) (hz : kvs.length ≤ 1000000) (h : ∀ y kvs' H', H' a = some (.dK kvs') → (∀ b, b ≠ a → H' b = H b) → (valV kvs (.inr (st l)) = some y ∧ kvs' = kvs ∨ valV kvs (.inr (st l)) = none ∧ y = z ∧ kvs' = putK kvs (.inr (st l)) z) → Q y H') : qSetd2 Q a (S l) z H :=
  x_qSetd2 hd hz (fun v e => h v kvs H hd (fun _ _ => rfl) (.inl ⟨e, rfl⟩)) fun e H' h1 h2 => h z _ H' h1 h2 (.inr ⟨e, rfl, rfl⟩)
def PInv (H : Hp) (P : List PT) (n : Nat) (acc : List EN) (kvs : List (Key × V)) : Prop :=
  (∀ v : List Nat, valV kvs (.inr (st v)) = none ↔ look acc v = none) ∧ ∀ (v : List Nat) (z : V), valV kvs (.inr (st v)) = some z → ∃ (t : Addr) (i a : Nat), z = .ref t ∧ H t = some (.tup [.int (i : Nat), .int (a : Nat)]) ∧ PlaceOk P n v i a ∧ look acc v = some (sgn P i a)
theorem PInv.keep {H H' : Hp} {P : List PT} {n : Nat} {acc : List EN} {kvs : List (Key × V)} (h : PInv H P n acc kvs) (k : ∀ b xs, H b = some (.tup xs) → H' b = some (.tup xs)) : PInv H' P n acc kvs :=
  ⟨h.1, fun v z e => by
    obtain ⟨t, i, a, h1, h2, h3⟩ := h.2 v z e
    exact ⟨t, i, a, h1, k _ _ h2, h3⟩⟩
theorem place_step {H H' : Hp} {P : List PT} {n : Nat} {acc : List EN} {kvs kvs' : List (Key × V)} {v : List Nat} {s : Nat} {y : V} {t0 : Addr} {i0 a0 : Nat} (inv : PInv H P n acc kvs) (ht : H t0 = some (.tup [.int (i0 : Nat), .int (a0 : Nat)])) (hp : PlaceOk P n v i0 a0) (hs : sgn P i0 a0 = s)
    (k : ∀ b xs, H b = some (.tup xs) → H' b = some (.tup xs)) (c : valV kvs (.inr (st v)) = some y ∧ kvs' = kvs ∨ valV kvs (.inr (st v)) = none ∧ y = .ref t0 ∧ kvs' = putK kvs (.inr (st v)) (.ref t0)) :
    ∃ (t : Addr) (i a : Nat), y = .ref t ∧ H' t = some (.tup [.int (i : Nat), .int (a : Nat)]) ∧ PlaceOk P n v i a ∧ (sgn P i a = s → PInv H' P n (acc ++ [(v, s)]) kvs') ∧ (look acc v = none ∧ sgn P i a = s ∨ look acc v = some (sgn P i a)) ∧ kvs'.length ≤ kvs.length + 1 := by
  have inv' := inv.keep k
  rcases c with ⟨c1, rfl⟩ | ⟨c1, rfl, rfl⟩
  · obtain ⟨t, i, a, rfl, h1, h2, h3⟩ := inv'.2 v y c1
    refine ⟨t, i, a, rfl, h1, h2, fun e => ⟨fun u => ?_, fun u z hz => ?_⟩, .inr h3, by omega⟩
    · rw [look_snoc]
      by_cases e2 : v = u
      · subst e2
        rw [if_pos rfl, c1]
        exact ⟨fun z => (nomatch z), fun z => (nomatch z)⟩
      · rw [if_neg e2]
        exact inv'.1 u
    · obtain ⟨t2, i2, a2, g0, g1, g2, g3⟩ := inv'.2 u z hz
      refine ⟨t2, i2, a2, g0, g1, g2, ?_⟩
      rw [look_snoc]
      by_cases e2 : v = u
      · subst e2
        rw [if_pos rfl, ← e]
        rw [h3] at g3
        exact g3
      · rw [if_neg e2]
        exact g3
  · refine ⟨t0, i0, a0, rfl, k _ _ ht, hp, fun _ => ⟨fun u => ?_, fun u z hz => ?_⟩, .inl ⟨(inv.1 v).mp c1, hs⟩, length_putK kvs _ _⟩
    · rw [look_snoc, valV_put]
      by_cases e2 : v = u
      · rw [if_pos e2, if_pos (by rw [e2])]
        exact ⟨fun z => (nomatch z), fun z => (nomatch z)⟩
      · rw [if_neg e2, if_neg (fun e => e2 (st_inj (Sum.inr.inj e)).symm)]
        exact inv'.1 u
    · rw [valV_put] at hz
      rw [look_snoc]
      by_cases e2 : v = u
      · rw [if_pos (by rw [e2])] at hz
        obtain rfl := (Option.some.inj hz).symm
        rw [if_pos e2, ← hs]
        exact ⟨t0, i0, a0, rfl, k _ _ ht, e2 ▸ hp, rfl⟩
      · rw [if_neg (fun e => e2 (st_inj (Sum.inr.inj e)).symm)] at hz
        rw [if_neg e2]
        exact inv'.2 u z hz
theorem ok_first_clash {P : Program} {w : World} {K : PySem.W.Frag} {mg : Str → Option Value} {base : Heap} {A : Ad} (T : Txt P K mg A) : FnOk P w K mg base CX0 2 A.a_first_clash A.fd_first_clash ["pairs", "size"] sp_first_clash := by
  refine T.F_first_clash.ok sc_first_clash (fun vs H Q E h => ?_) (fun cdv A' outer s H vs Q E hr h => ?_)
  · obtain ⟨q, n, P0, rfl, _⟩ := h
    rfl
  · obtain ⟨q, n, P0, rfl, hq, hz, hn, hlen, kF, kC⟩ := h
    have hu := hu_of hr
    refine ⟨_, (pss_cons (ps_set (i := 2) sc_first_clash.nd rfl (Or.inl rfl) pe_dnewK)
    (pss_cons (ps_for PassesOwn.never rfl (pi_enum (by rfl) T.n_enumerate (pa_cons (pv 0) pa_nil)) (pg_tup rfl (pgs_cons (pg_name (i := 3) sc_first_clash.nd rfl (Or.inl rfl)) (pgs_cons (pg_tup rfl (pgs_cons (pg_name (i := 4) sc_first_clash.nd rfl (Or.inl rfl)) (pgs_cons (pg_name (i := 5) sc_first_clash.nd rfl (Or.inl rfl)) pgs_nil))) pgs_nil)))
    (pss_one (ps_for PassesOwn.never rfl (pi_range1 (by rfl) T.n_range (pa_cons (pe_callB call_len_str (by rfl) T.n_len bt_len (pa_cons (pv 4) pa_nil)) pa_nil)) (pg_name (i := 6) sc_first_clash.nd rfl (Or.inl rfl))
    (pss_cons (ps_set (i := 7) sc_first_clash.nd rfl (Or.inl rfl) (pe_call (ok_view_at (w := w) T) (hr.mono (by decide)) rfl T.g_view_at T.F_view_at.kp T.b_view_at .nil pass0 (pa_cons (pv 4) (pa_cons (pv 6) (pa_cons (pv 1) pa_nil)))))
    (pss_cons (ps_set (i := 8) sc_first_clash.nd rfl (Or.inl rfl) (pe_dsetd (pv 2) (pv 7) (pe_tup (pa_cons (pv 3) (pa_cons (pv 6) pa_nil))) ⟨rfl, rfl, rfl, rfl⟩))
    (pss_one (ps_if (pt_cmpR op_ne (pe_ix ix_str (pe_ix (show IxR _ (rIxT K) from ix_tup) (pe_ix (show IxR _ (rIxL K) from ix_list) (pv 0) (pe_ix (show IxR _ (rIxT K) from ix_tup) (pv 8) pe_int (fun _ _ => rfl)) (fun _ _ => rfl)) pe_int (fun _ _ => rfl)) (pe_ix (show IxR _ (rIxT K) from ix_tup) (pv 8) pe_int (fun _ _ => rfl)) (fun _ _ => rfl)) (pe_ix ix_str (pv 5) (pv 6) (fun _ _ => rfl)) (nomark _))
    (pss_one (ps_ret (pe_tup (pa_cons (pv 8) (pa_cons (pe_tup (pa_cons (pv 3) (pa_cons (pv 6) pa_nil))) pa_nil)))))
    pss_nil)))))))
    (pss_one (ps_ret pe_non)))),
      ?_⟩
    refine x_start (σ := [some (.ref q), some (.int (n : Nat)), none, none, none, none, none, none, none]) rfl ?_
    obtain ⟨as, rfl, hq2, hra⟩ := id hq
    walk_at "sx"
    refine x_dnew fun pd H1 f1 e1 h1 => ?_
    walk_at "sx"
    refine x_qEnL (.inl (.inl (e1 _ _ hq2))) ?_
    refine forA_En (K := K) (l := as) (enc := fun z => V.ref z.1) (fun u r σ H3 => ∃ (o3 o4 o5 o6 o7 o8 : Option V) (kvs : List (Key × V)), σ = [some (.ref q), some (.int (n : Nat)), some (.ref pd), o3, o4, o5, o6, o7, o8] ∧ Ex H H3 ∧ H3 pd = some (.dK kvs) ∧ kvs.length ≤ u.length * 1000 ∧ PInv H3 (as.map fun z => z.2) n (ents n (u.map fun z => z.2)) kvs ∧
      clashGo (ents n (u.map fun z => z.2)) (ents n (r.map fun z => z.2)) = clashGo [] (ents n (as.map fun z => z.2)))
      ⟨_, _, _, _, _, _, [], rfl, e1, h1, Nat.zero_le _, ⟨fun v => ⟨fun _ => rfl, fun _ => rfl⟩, fun v z h => by cases h⟩, rfl⟩ (fun _ _ _ _ ⟨_, _, _, _, _, _, _, _, e, _⟩ => .inl (.inl (e _ _ hq2))) ?_ ?_
    · rintro u z r σ H3 T H4 el ⟨o3, o4, o5, o6, o7, o8, kvs, rfl, e3, hd3, hk, hi, hc⟩ fT e4 hTT
      have e04 := e3.trans e4
      have z1 : H4 z.1 = some (.tup [S z.2.1, S z.2.2]) := e04 _ _ (hra z (by rw [el]; simp))
      obtain ⟨zl1, zl2⟩ := hz.2 z.2 (by rw [el]; simp)
      have zle : z.2.1.length = z.2.2.length := hlen z.2 (by rw [el]; simp)
      have hget : (as.map fun z => z.2)[u.length]? = some z.2 := by
        rw [el, List.map_append, List.getElem?_append_right (by simp)]
        simp
      walk_at "sx"
      rw [Int.toNat_natCast]
      refine for_R (fun i σ H5 => ∃ (o6 o7 o8 : Option V) (kvs : List (Key × V)), σ = [some (.ref q), some (.int (n : Nat)), some (.ref pd), some (.int (u.length : Nat)), some (S z.2.1), some (S z.2.2), o6, o7, o8] ∧ Ex H H5 ∧ H5 pd = some (.dK kvs) ∧ kvs.length ≤ u.length * 1000 + i ∧ PInv H5 (as.map fun z => z.2) n (ents n (u.map fun z => z.2) ++ entsT z.2 n i) kvs ∧
        clashGo (ents n (u.map fun z => z.2) ++ entsT z.2 n i) (entsF z.2 n i ++ ents n (r.map fun z => z.2)) = clashGo [] (ents n (as.map fun z => z.2)))
        ⟨_, _, _, kvs, rfl, e04, e4 _ _ hd3, by omega, ?_, ?_⟩ ?_ ?_
      · have : ents n (u.map fun z => z.2) ++ entsT z.2 n 0 = ents n (u.map fun z => z.2) := List.append_nil _
        rw [this]
        exact hi.keep fun b xs h => e4 _ _ h
      · have : ents n (u.map fun z => z.2) ++ entsT z.2 n 0 = ents n (u.map fun z => z.2) := List.append_nil _
        rw [this]
        exact hc
      · rintro i σ H5 hil ⟨o6, o7, o8, kvs, rfl, e5, hd5, hk5, hi5, hc5⟩
        rw [entsF_cons hil, List.cons_append, clashGo] at hc5
        walk_at "sx"
        rw [Int.zero_add]
        refine ⟨z.2.1, i, n, rfl, by omega, by omega, by omega, ?_⟩
        walk_at "sx"
        refine x_qSetd hd5 ?_
        walk_at "sx"
        refine x_newTg (by simp) fun t6 H6 f6 e6 h6 => ?_
        have hd6 := e6 _ _ hd5
        have hu : u.length ≤ 100 := by
          have := hz.1
          rw [el] at this
          simp at this
          omega
        refine x_qSetd3 hd6 (by omega) fun y kvs' H7 h7 k7 c7 => ?_
        have kt : ∀ b xs, H6 b = some (.tup xs) → H7 b = some (.tup xs) := fun b xs h => by
          rw [k7 b (fun z => by rw [z, hd6] at h; cases h)]
          exact h
        have e07 : Ex H H7 := ((e5.trans e6)).off f1 k7
        have hpl : PlaceOk (as.map fun z => z.2) n (view z.2.1 i n) u.length i := ⟨z.2, hget, hil, rfl⟩
        have hsg : sgn (as.map fun z => z.2) u.length i = z.2.2.getD i 0 := by
          show (((as.map fun z => z.2).getD u.length ([], [])).2).getD i 0 = z.2.2.getD i 0
          have : (as.map fun z => z.2).getD u.length ([], []) = z.2 := by
            rw [List.getD_eq_getElem?_getD, hget]
            rfl
          rw [this]
        obtain ⟨t8, i8, a8, rfl, ht8, hp8, hinv, hlk, hkl⟩ := place_step (hi5.keep fun b xs h => e6 _ _ h) h6 hpl hsg kt c7
        obtain ⟨p8, hp81, hp82, hp83⟩ := id hp8
        rw [List.getElem?_map] at hp81
        obtain ⟨z8, hz8, rfl⟩ : ∃ z8, as[i8]? = some z8 ∧ z8.2 = p8 := by
          cases e : as[i8]? with
          | none => rw [e] at hp81; cases hp81
          | some z8 => rw [e] at hp81; exact ⟨z8, rfl, Option.some.inj hp81⟩
        have hm8 : z8 ∈ as := List.mem_of_getElem? hz8
        have z81 : H7 z8.1 = some (.tup [S z8.2.1, S z8.2.2]) := e07 _ _ (hra z8 hm8)
        have z8l : z8.2.1.length = z8.2.2.length := hlen z8.2 (List.mem_map.mpr ⟨z8, hm8, rfl⟩)
        obtain ⟨z8a, z8b⟩ := hz.2 z8.2 (List.mem_map.mpr ⟨z8, hm8, rfl⟩)
        have hsg8 : sgn (as.map fun z => z.2) i8 a8 = z8.2.2.getD a8 0 := by
          show (((as.map fun z => z.2).getD i8 ([], [])).2).getD a8 0 = z8.2.2.getD a8 0
          have : (as.map fun z => z.2).getD i8 ([], []) = z8.2 := by
            rw [List.getD_eq_getElem?_getD, List.getElem?_map, hz8]
            rfl
          rw [this]
        have hat : ∀ (l : List Nat) (k : Nat), k < l.length → atI l (k : Nat) = some (l.getD k 0) := fun l k h => atI_nat (by rw [List.getD_eq_getElem?_getD, List.getElem?_eq_getElem h]; rfl)
        walk_at "sx"
        refine x_ixL (.inl (.inl (e07 _ _ hq2))) (v := .ref z8.1) (atI_nat (by rw [List.getElem?_map, hz8]; rfl)) ?_
        walk_at "sx"
        refine x_ixS (by omega) (hat z8.2.2 a8 (by omega)) ?_
        walk_at "sx"
        refine x_ixS (by omega) (hat z.2.2 i (by omega)) ?_
        walk_at "sx"
        refine x_iteN (fun c => ?_) (fun c => ?_)
        · have cs : sgn (as.map fun z => z.2) i8 a8 ≠ z.2.2.getD i 0 := fun e => c (by rw [← hsg8, e])
          have hl2 : look (ents n (u.map fun z => z.2) ++ entsT z.2 n i) (entOf z.2 n i).1 = some (sgn (as.map fun z => z.2) i8 a8) := by
            rcases hlk with ⟨_, b⟩ | b
            · exact absurd b cs
            · exact b
          rw [hl2] at hc5
          have hd : decide (sgn (as.map fun z => z.2) i8 a8 ≠ (entOf z.2 n i).2) = true := decide_eq_true cs
          dsimp only at hc5
          rw [hd, Bool.true_or] at hc5
          walk_at "sx"
          refine x_newTg (by simp) fun t9 H9 f9 e9 h9 => ?_
          walk_at "sx"
          refine x_newTg (by simp) fun t10 H10 f10 e10 h10 => ?_
          exact kC hc5.symm t10 t8 t9 i8 a8 u.length i (view z.2.1 i n) H10 ((e07.trans e9).trans e10) h10 (e10 _ _ (e9 _ _ ht8)) (e10 _ _ h9) hp8 hpl (by rw [hsg]; exact cs)
        · have cs : sgn (as.map fun z => z.2) i8 a8 = z.2.2.getD i 0 := by rw [hsg8]; exact List.singleton_inj.mp c
          have hc6 : clashGo ((ents n (u.map fun z => z.2) ++ entsT z.2 n i) ++ [entOf z.2 n i]) (entsF z.2 n (i + 1) ++ ents n (r.map fun z => z.2)) = clashGo [] (ents n (as.map fun z => z.2)) := by
            rcases hlk with ⟨b, _⟩ | b
            · rw [show look (ents n (u.map fun z => z.2) ++ entsT z.2 n i) (entOf z.2 n i).1 = none from b] at hc5
              exact hc5
            · rw [show look (ents n (u.map fun z => z.2) ++ entsT z.2 n i) (entOf z.2 n i).1 = some _ from b] at hc5
              dsimp only at hc5
              have hd : decide (sgn (as.map fun z => z.2) i8 a8 ≠ (entOf z.2 n i).2) = false := decide_eq_false (fun e => e cs)
              rw [hd, Bool.false_or] at hc5
              exact hc5
          have et0 : entsT z.2 n i ++ [entOf z.2 n i] = entsT z.2 n (i + 1) := (entsT_snoc _ _ _).symm
          rw [List.append_assoc, et0] at hc6
          have hi7 := hinv cs
          rw [List.append_assoc] at hi7
          have et : entsT z.2 n i ++ [(view z.2.1 i n, z.2.2.getD i 0)] = entsT z.2 n (i + 1) := (entsT_snoc _ _ _).symm
          rw [et] at hi7
          walk_at "sx"
          exact ⟨_, _, _, kvs', rfl, e07, h7, by omega, hi7, hc6⟩
      · rintro σ H5 ⟨o6, o7, o8, kvs, rfl, e5, hd5, hk5, hi5, hc5⟩
        rw [entsF_nil (Nat.le_refl _), List.nil_append, entsT_all] at hc5
        rw [entsT_all] at hi5
        have e9 : ents n ((u ++ [z]).map fun z => z.2) = ents n (u.map fun z => z.2) ++ entsF z.2 n 0 := by
          rw [List.map_append, ents_app]
          exact congrArg _ (List.append_nil _)
        exact ⟨_, _, _, _, _, _, kvs, rfl, e5, hd5, by rw [List.length_append, List.length_singleton]; omega, by rw [e9]; exact hi5, by rw [e9]; exact hc5⟩
    · rintro σ H3 ⟨o3, o4, o5, o6, o7, o8, kvs, rfl, e3, hd3, hk, hi, hc⟩
      rw [List.map_nil] at hc
      have q := kF hc.symm H3 e3
      walk_at "sx"
      exact q

end TY

namespace TY
open PySem PyProof.Rows PySem.Spec L2 L2H
local macro_rules | `(tactic| walk_at "tylit") => `(tactic| first | exact lit_0 | exact lit_1 | exact lit_2 | exact lit_3 | exact lit_4 | exact lit_5 | exact lit_6 | exact lit_7 | exact lit_8 | exact lit_9 | exact lit_10 | exact lit_11 | exact lit_12 | exact lit_13 | exact lit_14 | exact lit_15 | exact lit_16 | exact lit_17 | exact lit_18 | exact lit_19 | exact lit_20 | exact lit_21 | exact lit_22)
/-! the word: one step; all steps -/
local macro_rules | `(tactic| walk_at "tysq") => `(tactic| first | assumption | exact Or.inl (Or.inl (by assumption)) | exact Or.inl (Or.inl upd_same))
local macro_rules | `(tactic| walk_at "tysqT") => `(tactic| first | assumption | exact Or.inl (Or.inl (by assumption)) | exact Or.inl (Or.inl upd_same))
local macro_rules | `(tactic| walk_at "tyhp") => `(tactic| first | assumption | exact upd_same)
local macro_rules | `(tactic| walk_at "tyc") => `(tactic| first | decide | assumption | omega | (simp only [List.length_map, List.length_append, List.length_cons, List.length_nil]; omega) | exact Or.inl ⟨by omega, by omega⟩ | exact ⟨by omega, by omega⟩ | exact ⟨by decide, by decide⟩)
local macro_rules | `(tactic| walk_at "sx1") => `(tactic| first
  | with_reducible refine x_seq ?_ | with_reducible refine x_next ?_ | with_reducible refine x_Dnx ?_ | with_reducible refine x_Drt ?_
  | with_reducible refine x_asg ?_ | ((with_reducible refine x_gname ?_); try dsimp only [List.set_cons_zero, List.set_cons_succ]) | with_reducible refine x_drop ?_ | with_reducible refine x_ret ?_
  | with_reducible refine x_ifS ?_ | with_reducible refine x_ifE ?_ | ((with_reducible apply x_var); (first | rfl | assumption)) | ((with_reducible apply x_cStr); with_reducible walk_at "tylit") | with_reducible refine x_c ?_
  | with_reducible refine l_addS ?_ | with_reducible refine l_inSign ?_ | with_reducible refine l_niSign ?_ | with_reducible refine l_repS ?_ | with_reducible refine x_then ?_ | with_reducible refine x_iTup ?_ | ((with_reducible apply x_gTup); (walk_at "tysqT"); rfl) | with_reducible refine x_gC ?_ | with_reducible refine x_gN ?_ | with_reducible refine x_nget ?_ | with_reducible refine x_nin ?_ | with_reducible refine x_nput ?_ | with_reducible refine x_nget2 ?_ | with_reducible refine x_inO ?_ | with_reducible refine x_callOA ?_ | with_reducible refine x_setd ?_ | with_reducible refine l_dictD ?_ | with_reducible refine x_din ?_ | with_reducible refine x_dnotin ?_ | with_reducible refine l_repA ?_ | with_reducible refine l_leS ?_ | with_reducible refine l_isN ?_ | with_reducible refine l_notN ?_
  | with_reducible refine x_op ?_ | with_reducible refine x_un ?_ | with_reducible refine x_I0 ?_ | ((with_reducible apply x_I); walk_at "tyc") | with_reducible refine x_U ?_
  | with_reducible refine x_eqI ?_ | with_reducible refine x_neI ?_ | with_reducible refine x_eqOne ?_ | with_reducible refine x_eqSt ?_ | with_reducible refine x_neSt ?_ | with_reducible refine x_eqS ?_ | with_reducible refine x_neS ?_
  | with_reducible refine x_test ?_ | with_reducible refine x_tB ?_ | with_reducible refine x_bl ?_ | with_reducible refine x_bl2 ?_
  | with_reducible refine x_yes ?_ | with_reducible refine x_and ?_ | with_reducible refine x_or ?_ | with_reducible refine x_not ?_ | with_reducible refine x_andV ?_ | with_reducible refine x_orV ?_ | with_reducible refine x_notV ?_
  | with_reducible refine x_nil ?_ | with_reducible refine x_cons ?_ | with_reducible refine l_len ?_ | with_reducible refine l_lenS ?_ | with_reducible refine l_int1 ?_ | with_reducible refine l_abs ?_ | with_reducible refine l_max2 ?_ | with_reducible refine l_min2 ?_ | with_reducible refine l_list ?_ | with_reducible refine l_listD ?_ | with_reducible refine l_strI ?_ | with_reducible refine x_cb ?_ | with_reducible refine x_call ?_ | with_reducible refine x_callS ?_ | with_reducible refine x_callE ?_
  | ((with_reducible apply x_aug); (first | rfl | assumption)) | with_reducible refine x_ipI ?_ | with_reducible refine x_sl ?_ | with_reducible refine x_nopart ?_ | with_reducible refine x_part ?_ | with_reducible refine x_int ?_
  | with_reducible refine x_gsub ?_ | with_reducible refine x_bm ?_ | with_reducible refine x_bm0 ?_ | with_reducible refine l_upper ?_ | with_reducible refine l_join ?_ | with_reducible refine l_index ?_ | with_reducible refine x_m0 ?_ | with_reducible refine x_m1 ?_ | with_reducible refine x_strA ?_ | with_reducible refine x_augS ?_
  | ((with_reducible apply x_tyL); walk_at "tysq")
  | ((with_reducible apply x_addS); walk_at "tyc") | with_reducible refine x_inSign ?_ | with_reducible refine x_niSign ?_ | with_reducible refine x_leS ?_ | with_reducible refine x_isN ?_ | with_reducible refine x_notN ?_ | with_reducible refine x_max2 ?_ | with_reducible refine x_min2 ?_
  | ((with_reducible apply x_lenS); walk_at "tyc") | ((with_reducible apply x_lenL); walk_at "tysq")
  | with_reducible refine x_int1 ?_ | with_reducible refine x_abs ?_
  | ((with_reducible apply x_ixL); walk_at "tysq"; rfl) | ((with_reducible apply x_setL); walk_at "tyhp"; rfl)
  | with_reducible refine x_lc ?_ | with_reducible refine x_for ?_ | with_reducible refine x_iStr ?_ | with_reducible refine x_qStr ?_ | with_reducible refine x_iLst ?_ | ((with_reducible apply x_qLst); walk_at "tysq")
  | with_reducible refine x_iRng1 ?_ | with_reducible refine x_iRng2 ?_ | ((with_reducible apply x_qRng1); walk_at "tyc") | ((with_reducible apply x_qRng2); walk_at "tyc") | with_reducible refine x_iEnS ?_ | with_reducible refine x_qEnS ?_
  | ((with_reducible apply x_slS); walk_at "tyc")
  | with_reducible refine x_lst ?_ | with_reducible refine x_tup ?_
  | with_reducible refine x_listZip ?_ | with_reducible refine x_iRev ?_ | ((with_reducible apply x_qRev); walk_at "tysq") | with_reducible refine x_dget ?_ | with_reducible refine x_dput ?_ | with_reducible refine x_tern ?_ | with_reducible refine x_replA ?_ | with_reducible refine x_replC ?_ | with_reducible refine x_sl3 ?_ | with_reducible refine x_iEnL ?_ | with_reducible refine x_lc2 ?_ | with_reducible refine x_ckw ?_ | with_reducible refine x_eqB ?_ | with_reducible refine x_fld ?_ | with_reducible refine x_sfld ?_ | with_reducible refine x_makeS ?_ | with_reducible refine x_methA ?_ | with_reducible refine x_fmt ?_ | with_reducible refine x_js0 ?_ | with_reducible refine x_js ?_ | ((with_reducible apply x_qJs); walk_at "tyc") | with_reducible refine x_jsE ?_ | with_reducible refine x_mkO ?_ | ((with_reducible apply x_ixT); walk_at "tysqT"; rfl)
  | with_reducible refine x_iteT ?_ | with_reducible refine x_iteF ?_ | with_reducible refine x_iteNT' ?_ | with_reducible refine x_iteNF' ?_)
local macro_rules | `(tactic| walk_at "sx") => `(tactic| repeat walk_at "sx1")
local macro_rules | `(tactic| walk_at "sxi") => `(tactic| repeat (first
  | with_reducible refine x_seq ?_ | with_reducible refine x_next ?_ | with_reducible refine x_Dnx ?_ | with_reducible refine x_Drt ?_ | with_reducible refine x_asg ?_ | ((with_reducible refine x_gname ?_); try dsimp only [List.set_cons_zero, List.set_cons_succ]) | with_reducible refine x_drop ?_ | with_reducible refine x_ifS ?_))
local macro_rules | `(tactic| walk_at "sxn") => `(tactic| repeat (first
  | with_reducible refine x_next ?_ | with_reducible refine x_Dnx ?_ | with_reducible refine x_Drt ?_ | with_reducible refine x_asg ?_ | ((with_reducible refine x_gname ?_); try dsimp only [List.set_cons_zero, List.set_cons_succ]) | with_reducible refine x_drop ?_))
/-! fits or clash -/
theorem look_of_fun {es : List EN} (hf : Fun1 es) {v : List Nat} {s : Nat} (h : (v, s) ∈ es) : look es v = some s := hf _ h
theorem ents_len (n : Nat) : ∀ P : List PT, (∀ p ∈ P, p.1.length ≤ 1000) → (ents n P).length ≤ P.length * 1000
  | [], _ => Nat.le_refl _
  | p :: P, h => by
    have := ents_len n P fun x hx => h x (List.mem_cons_of_mem _ hx)
    have h1 := h p List.mem_cons_self
    rw [ents, List.length_append, List.length_cons]
    have h2 : (entsF p n 0).length = p.1.length := by simp [entsF]
    omega
def clashS : List Nat := [99, 108, 97, 115, 104]
def fitsS : List Nat := [102, 105, 116, 115]
def sp_fit_turner (A : Ad) : Sp := fun vs H Q E => ∃ (q : Addr) (lt im : List Nat) (n : Nat) (P : List PT), vs = [S lt, S im, .int (n : Nat), .ref q] ∧ PairsIn H q P ∧ goodL lt = true ∧ goodL im = true ∧ lt.length ≤ 1000 ∧ im.length ≤ 1000 ∧ n ≤ 1000 ∧ PBnd P ∧
  (pGo lt im 0 P = none → clashGo [] (ents n P) = false → ∀ (r t : Addr) H', Ex H H' → H' r = some (.tup [S fitsS, .ref t]) → TurnAt A H' t lt im n (ents n P) → Q (.ref r) H') ∧
  (pGo lt im 0 P = none → clashGo [] (ents n P) = true → ∀ (r r1 r2 : Addr) (i a j b : Nat) (v : List Nat) (H' : Hp), Ex H H' → H' r = some (.tup [S clashS, .ref r1, .ref r2]) → H' r1 = some (.tup [.int (i : Nat), .int (a : Nat)]) → H' r2 = some (.tup [.int (j : Nat), .int (b : Nat)]) → PlaceOk P n v i a → PlaceOk P n v j b → sgn P i a ≠ sgn P j b → Q (.ref r) H') ∧
  errP A E H (pGo lt im 0 P)
theorem ok_fit_turner {P : Program} {w : World} {K : PySem.W.Frag} {mg : Str → Option Value} {base : Heap} {A : Ad} (T : Txt P K mg A) : FnOk P w K mg base (L2.CX P w) 5 A.a_fit_turner A.fd_fit_turner ["letters", "images", "size", "pairs"] (sp_fit_turner A) := by
  refine T.F_fit_turner.okX sc_fit_turner (fun vs H Q E h => ?_) (fun cdv A' outer s H vs Q E hr h => ?_)
  · obtain ⟨q, lt, im, n, P0, rfl, _⟩ := h
    rfl
  · obtain ⟨q, lt, im, n, P0, rfl, hq, g1, g2, hlt, him, hn, hz, kF, kC, kE⟩ := h
    have hu := hu_of hr
    refine ⟨_, (pss_cons (ps_expr (pe_call (ok_check_pairs (w := w) T) (hr.mono (by decide)) rfl T.g_check_pairs T.F_check_pairs.kp T.b_check_pairs .nil (passes_call (takes_of rfl rfl rfl rfl) fun _ _ _ _ h => h) (pa_cons (pv 0) (pa_cons (pv 1) (pa_cons (pv 3) pa_nil)))))
    (pss_cons (ps_set (i := 4) sc_fit_turner.nd rfl (Or.inl rfl) (pe_call (ok_first_clash (w := w) T) (hr.mono (by decide)) rfl T.g_first_clash T.F_first_clash.kp T.b_first_clash .nil pass0 (pa_cons (pv 3) (pa_cons (pv 2) pa_nil))))
    (pss_cons (ps_if (pt_cmpR op_notN (pv 4) pe_non (nomark _))
    (pss_one (ps_ret (pe_tup (pa_cons pe_str (pa_cons (pe_ix (show IxR _ (rIxT K) from ix_tup) (pv 4) pe_int (fun _ _ => rfl)) (pa_cons (pe_ix (show IxR _ (rIxT K) from ix_tup) (pv 4) pe_int (fun _ _ => rfl)) pa_nil))))))
    pss_nil)
    (pss_cons (ps_set (i := 5) sc_fit_turner.nd rfl (Or.inl rfl) pe_dnewK)
    (pss_cons (ps_for (passes_of rfl) rfl (pi_list (pv 3)) (pg_tup rfl (pgs_cons (pg_name (i := 6) sc_fit_turner.nd rfl (Or.inl rfl)) (pgs_cons (pg_name (i := 7) sc_fit_turner.nd rfl (Or.inl rfl)) pgs_nil)))
    (pss_one (ps_for (passes_of rfl) rfl (pi_range1 (by rfl) T.n_range (pa_cons (pe_callB call_len_str (by rfl) T.n_len bt_len (pa_cons (pv 6) pa_nil)) pa_nil)) (pg_name (i := 8) sc_fit_turner.nd rfl (Or.inl rfl))
    (pss_one (ps_dput hu (pv 5) (pe_call (ok_view_at (w := w) T) (hr.mono (by decide)) rfl T.g_view_at T.F_view_at.kp T.b_view_at .nil pass0 (pa_cons (pv 6) (pa_cons (pv 8) (pa_cons (pv 2) pa_nil)))) (pe_ix ix_str (pv 7) (pv 8) (fun _ _ => rfl)) rfl)))))
    (pss_one (ps_ret (pe_tup (pa_cons pe_str (pa_cons (pe_makeS T.mk_Turner (ok_Turner___init__ (w := w) T) (hr.mono (by decide)) rfl T.g_Turner T.b_Turner___init__ (atX (passes_call (takes_of rfl rfl rfl rfl) fun _ _ _ _ h => h)) (pa_cons (pv 0) (pa_cons (pv 1) (pa_cons (pv 2) (pa_cons (pv 5) pa_nil))))) pa_nil)))))))))),
      ?_⟩
    refine x_start (σ := [some (S lt), some (S im), some (.int (n : Nat)), some (.ref q), none, none, none, none, none]) rfl ?_
    obtain ⟨as, rfl, hq2, hra⟩ := id hq
    walk_at "sx"
    refine ⟨q, lt, im, _, rfl, hq, g1, g2, hlt, him, hz, fun hp H1 e1 => ?_, kE⟩
    walk_at "sx"
    have hlen := fun p hp2 => (pGo_none hp p hp2).2
    refine ⟨q, n, _, rfl, hq.ex e1, hz, hn, hlen, fun hc H2 e2 => ?_, fun hc r r1 r2 i a j b v H2 e2 hr1 hr2 hr3 p1 p2 hs => ?_⟩
    · walk_at "sx"
      rw [if_neg (by simp)]
      walk_at "sx"
      refine x_dnew fun ta H3 f3 e3 h3 => ?_
      walk_at "sx"
      refine x_qLst (xs := prefs as) (.inl (.inl ((e1.trans e2).trans e3 _ _ hq2))) ?_
      have e03 := (e1.trans e2).trans e3
      have hn3 : H ta = none := (e1.trans e2).back f3
      refine forA_L (K := K) (l := as) (enc := fun z => V.ref z.1) (fun u r σ H4 => ∃ (o6 o7 o8 : Option V), σ = [some (S lt), some (S im), some (.int (n : Nat)), some (.ref q), some .non, some (.ref ta), o6, o7, o8] ∧ Ex H H4 ∧ H4 ta = some (.dK (tabK (ents n (u.map fun z => z.2)))))
        ⟨_, _, _, rfl, e03, h3⟩ (fun _ _ _ _ ⟨_, _, _, _, e, _⟩ => .inl (.inl (e _ _ hq2))) ?_ ?_
      · rintro u z r σ H4 el ⟨o6, o7, o8, rfl, e4, hd4⟩
        have z1 : H4 z.1 = some (.tup [S z.2.1, S z.2.2]) := e4 _ _ (hra z (by rw [el]; simp))
        obtain ⟨zl1, zl2⟩ := hz.2 z.2 (by rw [el]; simp)
        have zle : z.2.1.length = z.2.2.length := hlen z.2 (by rw [el]; simp)
        have hu : u.length ≤ 100 := by
          have := hz.1
          rw [el] at this
          simp at this
          omega
        have hul : (ents n (u.map fun z => z.2)).length ≤ u.length * 1000 := by
          have := ents_len n (u.map fun z => z.2) fun p hp => (hz.2 p (by rw [el, List.map_append]; exact List.mem_append_left _ hp)).1
          rwa [List.length_map] at this
        walk_at "sx"
        rw [Int.toNat_natCast]
        refine for_R (fun i σ H5 => ∃ (o8 : Option V), σ = [some (S lt), some (S im), some (.int (n : Nat)), some (.ref q), some .non, some (.ref ta), some (S z.2.1), some (S z.2.2), o8] ∧ Ex H H5 ∧ H5 ta = some (.dK (tabK (ents n (u.map fun z => z.2) ++ entsT z.2 n i)))) ⟨_, rfl, e4, ?_⟩ ?_ ?_
        · have : ents n (u.map fun z => z.2) ++ entsT z.2 n 0 = ents n (u.map fun z => z.2) := List.append_nil _
          rw [this]
          exact hd4
        · rintro i σ H5 hil ⟨o8, rfl, e5, hd5⟩
          have hat : ∀ (l : List Nat) (k : Nat), k < l.length → atI l (k : Nat) = some (l.getD k 0) := fun l k h => atI_nat (by rw [List.getD_eq_getElem?_getD, List.getElem?_eq_getElem h]; rfl)
          walk_at "sx"
          rw [Int.zero_add]
          refine x_ixS (by omega) (hat z.2.2 i (by omega)) ?_
          walk_at "sx"
          refine ⟨z.2.1, i, n, rfl, by omega, by omega, by omega, ?_⟩
          have tl := tabK_len (ents n (u.map fun z => z.2) ++ entsT z.2 n i)
          have tl2 : (entsT z.2 n i).length = i := by simp [entsT]
          rw [List.length_append] at tl
          refine x_qDPutS hd5 (by omega) fun H6 h6 k6 => ?_
          refine ⟨_, rfl, e5.off hn3 k6, ?_⟩
          rw [entsT_snoc, ← List.append_assoc, tabK_snoc]
          exact h6
        · rintro σ H5 ⟨o8, rfl, e5, hd5⟩
          rw [entsT_all] at hd5
          have e9 : ents n ((u ++ [z]).map fun z => z.2) = ents n (u.map fun z => z.2) ++ entsF z.2 n 0 := by
            rw [List.map_append, ents_app]
            exact congrArg _ (List.append_nil _)
          exact ⟨_, _, _, rfl, e5, by rw [e9]; exact hd5⟩
      · rintro σ H4 ⟨o6, o7, o8, rfl, e4, hd4⟩
        have hul : (ents n (as.map fun z => z.2)).length ≤ as.length * 1000 := by
          have := ents_len n (as.map fun z => z.2) fun p hp => (hz.2 p hp).1
          rwa [List.length_map] at this
        have hz1 := hz.1
        rw [List.length_map] at hz1
        walk_at "sx"
        refine x_mkTurn hd4 (by omega) (by omega) g1 g2 (by omega) fun t H5 _ e5 h5 => ?_
        walk_at "sx"
        refine x_newTg (by simp) fun t9 H9 f9 e9 h9 => ?_
        exact kF hp hc t9 t H9 ((e4.trans e5).trans e9) h9 (h5.ex e9)
    · walk_at "sx"
      rw [if_pos (by simp)]
      walk_at "sx"
      refine x_newTg (by simp) fun t9 H9 f9 e9 h9 => ?_
      exact kC hp hc t9 r1 r2 i a j b v H9 ((e1.trans e2).trans e9) h9 (e9 _ _ hr2) (e9 _ _ hr3) p1 p2 hs

end TY

namespace TY
open PySem PyProof.Rows PySem.Spec L2 L2H
local macro_rules | `(tactic| walk_at "tylit") => `(tactic| first | exact lit_0 | exact lit_1 | exact lit_2 | exact lit_3 | exact lit_4 | exact lit_5 | exact lit_6 | exact lit_7 | exact lit_8 | exact lit_9 | exact lit_10 | exact lit_11 | exact lit_12 | exact lit_13 | exact lit_14 | exact lit_15 | exact lit_16 | exact lit_17 | exact lit_18 | exact lit_19 | exact lit_20 | exact lit_21 | exact lit_22)
/-! the word: one step; all steps -/
local macro_rules | `(tactic| walk_at "tysq") => `(tactic| first | assumption | exact Or.inl (Or.inl (by assumption)) | exact Or.inl (Or.inl upd_same))
local macro_rules | `(tactic| walk_at "tysqT") => `(tactic| first | assumption | exact Or.inl (Or.inl (by assumption)) | exact Or.inl (Or.inl upd_same))
local macro_rules | `(tactic| walk_at "tyhp") => `(tactic| first | assumption | exact upd_same)
local macro_rules | `(tactic| walk_at "tyc") => `(tactic| first | decide | assumption | omega | (simp only [List.length_map, List.length_append, List.length_cons, List.length_nil]; omega) | exact Or.inl ⟨by omega, by omega⟩ | exact ⟨by omega, by omega⟩ | exact ⟨by decide, by decide⟩)
local macro_rules | `(tactic| walk_at "sx1") => `(tactic| first
  | with_reducible refine x_seq ?_ | with_reducible refine x_next ?_ | with_reducible refine x_Dnx ?_ | with_reducible refine x_Drt ?_
  | with_reducible refine x_asg ?_ | ((with_reducible refine x_gname ?_); try dsimp only [List.set_cons_zero, List.set_cons_succ]) | with_reducible refine x_drop ?_ | with_reducible refine x_ret ?_
  | with_reducible refine x_ifS ?_ | with_reducible refine x_ifE ?_ | ((with_reducible apply x_var); (first | rfl | assumption)) | ((with_reducible apply x_cStr); with_reducible walk_at "tylit") | with_reducible refine x_c ?_
  | with_reducible refine l_addS ?_ | with_reducible refine l_inSign ?_ | with_reducible refine l_niSign ?_ | with_reducible refine l_repS ?_ | with_reducible refine x_then ?_ | with_reducible refine x_iTup ?_ | ((with_reducible apply x_gTup); (walk_at "tysqT"); rfl) | with_reducible refine x_gC ?_ | with_reducible refine x_gN ?_ | with_reducible refine x_nget ?_ | with_reducible refine x_nin ?_ | with_reducible refine x_nput ?_ | with_reducible refine x_nget2 ?_ | with_reducible refine x_inO ?_ | with_reducible refine x_callOA ?_ | with_reducible refine x_setd ?_ | with_reducible refine l_dictD ?_ | with_reducible refine x_din ?_ | with_reducible refine x_dnotin ?_ | with_reducible refine l_repA ?_ | with_reducible refine l_leS ?_ | with_reducible refine l_isN ?_ | with_reducible refine l_notN ?_
  | with_reducible refine x_op ?_ | with_reducible refine x_un ?_ | with_reducible refine x_I0 ?_ | ((with_reducible apply x_I); walk_at "tyc") | with_reducible refine x_U ?_
  | with_reducible refine x_eqI ?_ | with_reducible refine x_neI ?_ | with_reducible refine x_eqOne ?_ | with_reducible refine x_eqSt ?_ | with_reducible refine x_neSt ?_ | with_reducible refine x_eqS ?_ | with_reducible refine x_neS ?_
  | with_reducible refine x_test ?_ | with_reducible refine x_tB ?_ | with_reducible refine x_bl ?_ | with_reducible refine x_bl2 ?_
  | with_reducible refine x_yes ?_ | with_reducible refine x_and ?_ | with_reducible refine x_or ?_ | with_reducible refine x_not ?_ | with_reducible refine x_andV ?_ | with_reducible refine x_orV ?_ | with_reducible refine x_notV ?_
  | with_reducible refine x_nil ?_ | with_reducible refine x_cons ?_ | with_reducible refine l_len ?_ | with_reducible refine l_lenS ?_ | with_reducible refine l_int1 ?_ | with_reducible refine l_abs ?_ | with_reducible refine l_max2 ?_ | with_reducible refine l_min2 ?_ | with_reducible refine l_list ?_ | with_reducible refine l_listD ?_ | with_reducible refine l_strI ?_ | with_reducible refine x_cb ?_ | with_reducible refine x_call ?_ | with_reducible refine x_callS ?_ | with_reducible refine x_callE ?_
  | ((with_reducible apply x_aug); (first | rfl | assumption)) | with_reducible refine x_ipI ?_ | with_reducible refine x_sl ?_ | with_reducible refine x_nopart ?_ | with_reducible refine x_part ?_ | with_reducible refine x_int ?_
  | with_reducible refine x_gsub ?_ | with_reducible refine x_bm ?_ | with_reducible refine x_bm0 ?_ | with_reducible refine l_upper ?_ | with_reducible refine l_join ?_ | with_reducible refine l_index ?_ | with_reducible refine x_m0 ?_ | with_reducible refine x_m1 ?_ | with_reducible refine x_strA ?_ | with_reducible refine x_augS ?_
  | ((with_reducible apply x_tyL); walk_at "tysq")
  | ((with_reducible apply x_addS); walk_at "tyc") | with_reducible refine x_inSign ?_ | with_reducible refine x_niSign ?_ | with_reducible refine x_leS ?_ | with_reducible refine x_isN ?_ | with_reducible refine x_notN ?_ | with_reducible refine x_max2 ?_ | with_reducible refine x_min2 ?_
  | ((with_reducible apply x_lenS); walk_at "tyc") | ((with_reducible apply x_lenL); walk_at "tysq")
  | with_reducible refine x_int1 ?_ | with_reducible refine x_abs ?_
  | ((with_reducible apply x_ixL); walk_at "tysq"; rfl) | ((with_reducible apply x_setL); walk_at "tyhp"; rfl)
  | with_reducible refine x_lc ?_ | with_reducible refine x_for ?_ | with_reducible refine x_iStr ?_ | with_reducible refine x_qStr ?_ | with_reducible refine x_iLst ?_ | ((with_reducible apply x_qLst); walk_at "tysq")
  | with_reducible refine x_iRng1 ?_ | with_reducible refine x_iRng2 ?_ | ((with_reducible apply x_qRng1); walk_at "tyc") | ((with_reducible apply x_qRng2); walk_at "tyc") | with_reducible refine x_iEnS ?_ | with_reducible refine x_qEnS ?_
  | ((with_reducible apply x_slS); walk_at "tyc")
  | with_reducible refine x_lst ?_ | with_reducible refine x_tup ?_
  | with_reducible refine x_listZip ?_ | with_reducible refine x_iRev ?_ | ((with_reducible apply x_qRev); walk_at "tysq") | with_reducible refine x_dget ?_ | with_reducible refine x_dput ?_ | with_reducible refine x_tern ?_ | with_reducible refine x_replA ?_ | with_reducible refine x_replC ?_ | with_reducible refine x_sl3 ?_ | with_reducible refine x_iEnL ?_ | with_reducible refine x_lc2 ?_ | with_reducible refine x_ckw ?_ | with_reducible refine x_eqB ?_ | with_reducible refine x_fld ?_ | with_reducible refine x_sfld ?_ | with_reducible refine x_makeS ?_ | with_reducible refine x_methA ?_ | with_reducible refine x_fmt ?_ | with_reducible refine x_js0 ?_ | with_reducible refine x_js ?_ | ((with_reducible apply x_qJs); walk_at "tyc") | with_reducible refine x_jsE ?_ | with_reducible refine x_mkO ?_ | ((with_reducible apply x_ixT); walk_at "tysqT"; rfl)
  | with_reducible refine x_iteT ?_ | with_reducible refine x_iteF ?_ | with_reducible refine x_iteNT' ?_ | with_reducible refine x_iteNF' ?_)
local macro_rules | `(tactic| walk_at "sx") => `(tactic| repeat walk_at "sx1")
local macro_rules | `(tactic| walk_at "sxi") => `(tactic| repeat (first
  | with_reducible refine x_seq ?_ | with_reducible refine x_next ?_ | with_reducible refine x_Dnx ?_ | with_reducible refine x_Drt ?_ | with_reducible refine x_asg ?_ | ((with_reducible refine x_gname ?_); try dsimp only [List.set_cons_zero, List.set_cons_succ]) | with_reducible refine x_drop ?_ | with_reducible refine x_ifS ?_))
local macro_rules | `(tactic| walk_at "sxn") => `(tactic| repeat (first
  | with_reducible refine x_next ?_ | with_reducible refine x_Dnx ?_ | with_reducible refine x_Drt ?_ | with_reducible refine x_asg ?_ | ((with_reducible refine x_gname ?_); try dsimp only [List.set_cons_zero, List.set_cons_succ]) | with_reducible refine x_drop ?_))
/-! the law's table -/
def sp__law_table : Sp := fun vs H Q _ => ∃ (q : Addr) (n : Nat) (P : List PT), vs = [.ref q, .int (n : Nat)] ∧ PairsIn H q P ∧ PBnd P ∧ n ≤ 1000 ∧ (∀ p ∈ P, p.1.length = p.2.length) ∧
  (clashGo [] (ents n P) = true → ∀ H', Ex H H' → Q .non H') ∧
  (clashGo [] (ents n P) = false → ∀ (d : Addr) (H' : Hp), Ex H H' → H' d = some (.dK (tabK (ents n P))) → Q (.ref d) H')
theorem ok__law_table {P : Program} {w : World} {K : PySem.W.Frag} {mg : Str → Option Value} {base : Heap} {A : Ad} (T : Txt P K mg A) : FnOk P w K mg base CX0 2 A.a__law_table A.fd__law_table ["pairs", "size"] sp__law_table := by
  refine T.F__law_table.ok sc__law_table (fun vs H Q E h => ?_) (fun cdv A' outer s H vs Q E hr h => ?_)
  · obtain ⟨q, n, P0, rfl, _⟩ := h
    rfl
  · obtain ⟨q, n, P0, rfl, hq, hz, hn, hlen, kC, kF⟩ := h
    have hu := hu_of hr
    refine ⟨_, (pss_cons (ps_set (i := 2) sc__law_table.nd rfl (Or.inl rfl) pe_dnewK)
    (pss_cons (ps_for PassesOwn.never rfl (pi_list (pv 0)) (pg_name (i := 3) sc__law_table.nd rfl (Or.inl rfl))
    (pss_one (ps_for PassesOwn.never rfl (pi_range1 (by rfl) T.n_range (pa_cons (pe_callB call_len_str (by rfl) T.n_len bt_len (pa_cons (pe_ix (show IxR _ (rIxT K) from ix_tup) (pv 3) pe_int (fun _ _ => rfl)) pa_nil)) pa_nil)) (pg_name (i := 4) sc__law_table.nd rfl (Or.inl rfl))
    (pss_cons (ps_set (i := 5) sc__law_table.nd rfl (Or.inl rfl) (pe_call (ok__law_view (w := w) T) (hr.mono (by decide)) rfl T.g__law_view T.F__law_view.kp T.b__law_view .nil pass0 (pa_cons (pe_ix (show IxR _ (rIxT K) from ix_tup) (pv 3) pe_int (fun _ _ => rfl)) (pa_cons (pv 4) (pa_cons (pv 1) pa_nil)))))
    (pss_cons (ps_if (PW.pt (pw_and (pt_cmp (pc_din hu (pv 5) (pv 2))) (pw_and1 (pt_cmpR op_ne (pe_dget hu (pv 2) (pv 5) (fun _ _ => rfl)) (pe_ix ix_str (pe_ix (show IxR _ (rIxT K) from ix_tup) (pv 3) pe_int (fun _ _ => rfl)) (pv 4) (fun _ _ => rfl)) (nomark _)))))
    (pss_one (ps_ret pe_non))
    pss_nil)
    (pss_one (ps_dput hu (pv 2) (pv 5) (pe_ix ix_str (pe_ix (show IxR _ (rIxT K) from ix_tup) (pv 3) pe_int (fun _ _ => rfl)) (pv 4) (fun _ _ => rfl)) rfl)))))))
    (pss_one (ps_ret (pv 2))))),
      ?_⟩
    refine x_start (σ := [some (.ref q), some (.int (n : Nat)), none, none, none, none]) rfl ?_
    obtain ⟨as, rfl, hq2, hra⟩ := id hq
    walk_at "sx"
    refine x_dnew fun ta H3 f3 e03 h3 => ?_
    walk_at "sx"
    refine x_qLst (xs := prefs as) (.inl (.inl (e03 _ _ hq2))) ?_
    refine forA_L (K := K) (l := as) (enc := fun z => V.ref z.1) (fun u r σ H4 => ∃ (o3 o4 o5 : Option V), σ = [some (.ref q), some (.int (n : Nat)), some (.ref ta), o3, o4, o5] ∧ Ex H H4 ∧ H4 ta = some (.dK (tabK (ents n (u.map fun z => z.2)))) ∧ clashGo (ents n (u.map fun z => z.2)) (ents n (r.map fun z => z.2)) = clashGo [] (ents n (as.map fun z => z.2)))
      ⟨_, _, _, rfl, e03, h3, rfl⟩ (fun _ _ _ _ ⟨_, _, _, _, e, _⟩ => .inl (.inl (e _ _ hq2))) ?_ ?_
    · rintro u z r σ H4 el ⟨o3, o4, o5, rfl, e4, hd4, hc4⟩
      have z1 : H4 z.1 = some (.tup [S z.2.1, S z.2.2]) := e4 _ _ (hra z (by rw [el]; simp))
      obtain ⟨zl1, zl2⟩ := hz.2 z.2 (by rw [el]; simp)
      have zle : z.2.1.length = z.2.2.length := hlen z.2 (by rw [el]; simp)
      have hu : u.length ≤ 100 := by
        have := hz.1
        rw [el] at this
        simp at this
        omega
      have hul : (ents n (u.map fun z => z.2)).length ≤ u.length * 1000 := by
        have := ents_len n (u.map fun z => z.2) fun p hp => (hz.2 p (by rw [el, List.map_append]; exact List.mem_append_left _ hp)).1
        rwa [List.length_map] at this
      walk_at "sx"
      rw [Int.toNat_natCast]
      refine for_R (fun i σ H5 => ∃ (o4 o5 : Option V), σ = [some (.ref q), some (.int (n : Nat)), some (.ref ta), some (.ref z.1), o4, o5] ∧ Ex H H5 ∧ H5 ta = some (.dK (tabK (ents n (u.map fun z => z.2) ++ entsT z.2 n i))) ∧
        clashGo (ents n (u.map fun z => z.2) ++ entsT z.2 n i) (entsF z.2 n i ++ ents n (r.map fun z => z.2)) = clashGo [] (ents n (as.map fun z => z.2))) ⟨_, _, rfl, e4, ?_, ?_⟩ ?_ ?_
      · have : ents n (u.map fun z => z.2) ++ entsT z.2 n 0 = ents n (u.map fun z => z.2) := List.append_nil _
        rw [this]
        exact hd4
      · have : ents n (u.map fun z => z.2) ++ entsT z.2 n 0 = ents n (u.map fun z => z.2) := List.append_nil _
        rw [this]
        exact hc4
      · rintro i σ H5 hil ⟨o4, o5, rfl, e5, hd5, hc5⟩
        have z15 : H5 z.1 = some (.tup [S z.2.1, S z.2.2]) := e5 _ _ (hra z (by rw [el]; simp))
        rw [entsF_cons hil, List.cons_append, clashGo] at hc5
        have hat : ∀ (l : List Nat) (k : Nat), k < l.length → atI l (k : Nat) = some (l.getD k 0) := fun l k h => atI_nat (by rw [List.getD_eq_getElem?_getD, List.getElem?_eq_getElem h]; rfl)
        have tl := tabK_len (ents n (u.map fun z => z.2) ++ entsT z.2 n i)
        have tl2 : (entsT z.2 n i).length = i := by simp [entsT]
        rw [List.length_append] at tl
        have tk := tabK_look (ents n (u.map fun z => z.2) ++ entsT z.2 n i) (view z.2.1 i n)
        have et0 : entsT z.2 n i ++ [entOf z.2 n i] = entsT z.2 n (i + 1) := (entsT_snoc _ _ _).symm
        walk_at "sx"
        rw [Int.zero_add]
        refine ⟨z.2.1, i, n, rfl, by omega, by omega, by omega, ?_⟩
        walk_at "sx"
        refine x_qDInS hd5 ?_
        rw [tk]
        cases hl : look (ents n (u.map fun z => z.2) ++ entsT z.2 n i) (view z.2.1 i n) with
        | none =>
          rw [show look (ents n (u.map fun z => z.2) ++ entsT z.2 n i) (entOf z.2 n i).1 = none from hl] at hc5
          dsimp only at hc5
          rw [Bool.false_or, List.append_assoc, et0] at hc5
          refine ⟨false, rfl, ?_⟩
          rw [if_neg (by decide), if_neg (by decide)]
          walk_at "sx"
          refine x_ixS (by omega) (hat z.2.2 i (by omega)) ?_
          walk_at "sx"
          refine x_qDPutS hd5 (by omega) fun H6 h6 k6 => ?_
          refine ⟨_, _, rfl, e5.off f3 k6, ?_, hc5⟩
          rw [← et0, ← List.append_assoc, tabK_snoc]
          exact h6
        | some s =>
          rw [show look (ents n (u.map fun z => z.2) ++ entsT z.2 n i) (entOf z.2 n i).1 = some s from hl] at hc5
          rw [hl] at tk
          refine ⟨true, rfl, ?_⟩
          rw [if_pos rfl]
          walk_at "sx"
          refine x_qDGetS hd5 tk ?_
          walk_at "sx"
          refine x_ixS (by omega) (hat z.2.2 i (by omega)) ?_
          walk_at "sx"
          refine x_iteN (fun c => ?_) (fun c => ?_)
          · have cs : s ≠ z.2.2.getD i 0 := fun e => c (by rw [e])
            have hd : decide (s ≠ (entOf z.2 n i).2) = true := decide_eq_true cs
            dsimp only at hc5
            rw [hd, Bool.true_or] at hc5
            have qq := kC hc5.symm H5 e5
            walk_at "sx"
            exact qq
          · have cs : s = z.2.2.getD i 0 := List.singleton_inj.mp c
            have hd : decide (s ≠ (entOf z.2 n i).2) = false := decide_eq_false (fun e => e cs)
            dsimp only at hc5
            rw [hd, Bool.false_or, List.append_assoc, et0] at hc5
            walk_at "sx"
            refine x_ixS (by omega) (hat z.2.2 i (by omega)) ?_
            walk_at "sx"
            refine x_qDPutS hd5 (by omega) fun H6 h6 k6 => ?_
            refine ⟨_, _, rfl, e5.off f3 k6, ?_, hc5⟩
            rw [← et0, ← List.append_assoc, tabK_snoc]
            exact h6
      · rintro σ H5 ⟨o4, o5, rfl, e5, hd5, hc5⟩
        rw [entsF_nil (Nat.le_refl _), List.nil_append, entsT_all] at hc5
        rw [entsT_all] at hd5
        have e9 : ents n ((u ++ [z]).map fun z => z.2) = ents n (u.map fun z => z.2) ++ entsF z.2 n 0 := by
          rw [List.map_append, ents_app]
          exact congrArg _ (List.append_nil _)
        exact ⟨_, _, _, rfl, e5, by rw [e9]; exact hd5, by rw [e9]; exact hc5⟩
    · rintro σ H4 ⟨o3, o4, o5, rfl, e4, hd4, hc4⟩
      have q := kF hc4.symm ta H4 e4 hd4
      walk_at "sx"
      exact q

end TY

namespace TY
open PySem PyProof.Rows PySem.Spec L2 L2H
local macro_rules | `(tactic| walk_at "tylit") => `(tactic| first | exact lit_0 | exact lit_1 | exact lit_2 | exact lit_3 | exact lit_4 | exact lit_5 | exact lit_6 | exact lit_7 | exact lit_8 | exact lit_9 | exact lit_10 | exact lit_11 | exact lit_12 | exact lit_13 | exact lit_14 | exact lit_15 | exact lit_16 | exact lit_17 | exact lit_18 | exact lit_19 | exact lit_20 | exact lit_21 | exact lit_22)
/-! the word: one step; all steps -/
local macro_rules | `(tactic| walk_at "tysq") => `(tactic| first | assumption | exact Or.inl (Or.inl (by assumption)) | exact Or.inl (Or.inl upd_same))
local macro_rules | `(tactic| walk_at "tysqT") => `(tactic| first | assumption | exact Or.inl (Or.inl (by assumption)) | exact Or.inl (Or.inl upd_same))
local macro_rules | `(tactic| walk_at "tyhp") => `(tactic| first | assumption | exact upd_same)
local macro_rules | `(tactic| walk_at "tyc") => `(tactic| first | decide | assumption | omega | (simp only [List.length_map, List.length_append, List.length_cons, List.length_nil]; omega) | exact Or.inl ⟨by omega, by omega⟩ | exact ⟨by omega, by omega⟩ | exact ⟨by decide, by decide⟩)
local macro_rules | `(tactic| walk_at "sx1") => `(tactic| first
  | with_reducible refine x_seq ?_ | with_reducible refine x_next ?_ | with_reducible refine x_Dnx ?_ | with_reducible refine x_Drt ?_
  | with_reducible refine x_asg ?_ | ((with_reducible refine x_gname ?_); try dsimp only [List.set_cons_zero, List.set_cons_succ]) | with_reducible refine x_drop ?_ | with_reducible refine x_ret ?_
  | with_reducible refine x_ifS ?_ | with_reducible refine x_ifE ?_ | ((with_reducible apply x_var); (first | rfl | assumption)) | ((with_reducible apply x_cStr); with_reducible walk_at "tylit") | with_reducible refine x_c ?_
  | with_reducible refine l_addS ?_ | with_reducible refine l_inSign ?_ | with_reducible refine l_niSign ?_ | with_reducible refine l_repS ?_ | with_reducible refine x_then ?_ | with_reducible refine x_iTup ?_ | ((with_reducible apply x_gTup); (walk_at "tysqT"); rfl) | with_reducible refine x_gC ?_ | with_reducible refine x_gN ?_ | with_reducible refine x_nget ?_ | with_reducible refine x_nin ?_ | with_reducible refine x_nput ?_ | with_reducible refine x_nget2 ?_ | with_reducible refine x_inO ?_ | with_reducible refine x_callOA ?_ | with_reducible refine x_setd ?_ | with_reducible refine l_dictD ?_ | with_reducible refine x_din ?_ | with_reducible refine x_dnotin ?_ | with_reducible refine l_repA ?_ | with_reducible refine l_leS ?_ | with_reducible refine l_isN ?_ | with_reducible refine l_notN ?_
  | with_reducible refine x_op ?_ | with_reducible refine x_un ?_ | with_reducible refine x_I0 ?_ | ((with_reducible apply x_I); walk_at "tyc") | with_reducible refine x_U ?_
  | with_reducible refine x_eqI ?_ | with_reducible refine x_neI ?_ | with_reducible refine x_eqOne ?_ | with_reducible refine x_eqSt ?_ | with_reducible refine x_neSt ?_ | with_reducible refine x_eqS ?_ | with_reducible refine x_neS ?_
  | with_reducible refine x_test ?_ | with_reducible refine x_tB ?_ | with_reducible refine x_bl ?_ | with_reducible refine x_bl2 ?_
  | with_reducible refine x_yes ?_ | with_reducible refine x_and ?_ | with_reducible refine x_or ?_ | with_reducible refine x_not ?_ | with_reducible refine x_andV ?_ | with_reducible refine x_orV ?_ | with_reducible refine x_notV ?_
  | with_reducible refine x_nil ?_ | with_reducible refine x_cons ?_ | with_reducible refine l_len ?_ | with_reducible refine l_lenS ?_ | with_reducible refine l_int1 ?_ | with_reducible refine l_abs ?_ | with_reducible refine l_max2 ?_ | with_reducible refine l_min2 ?_ | with_reducible refine l_list ?_ | with_reducible refine l_listD ?_ | with_reducible refine l_strI ?_ | with_reducible refine x_cb ?_ | with_reducible refine x_call ?_ | with_reducible refine x_callS ?_ | with_reducible refine x_callE ?_
  | ((with_reducible apply x_aug); (first | rfl | assumption)) | with_reducible refine x_ipI ?_ | with_reducible refine x_sl ?_ | with_reducible refine x_nopart ?_ | with_reducible refine x_part ?_ | with_reducible refine x_int ?_
  | with_reducible refine x_gsub ?_ | with_reducible refine x_bm ?_ | with_reducible refine x_bm0 ?_ | with_reducible refine l_upper ?_ | with_reducible refine l_join ?_ | with_reducible refine l_index ?_ | with_reducible refine x_m0 ?_ | with_reducible refine x_m1 ?_ | with_reducible refine x_strA ?_ | with_reducible refine x_augS ?_
  | ((with_reducible apply x_tyL); walk_at "tysq")
  | ((with_reducible apply x_addS); walk_at "tyc") | with_reducible refine x_inSign ?_ | with_reducible refine x_niSign ?_ | with_reducible refine x_leS ?_ | with_reducible refine x_isN ?_ | with_reducible refine x_notN ?_ | with_reducible refine x_max2 ?_ | with_reducible refine x_min2 ?_
  | ((with_reducible apply x_lenS); walk_at "tyc") | ((with_reducible apply x_lenL); walk_at "tysq")
  | with_reducible refine x_int1 ?_ | with_reducible refine x_abs ?_
  | ((with_reducible apply x_ixL); walk_at "tysq"; rfl) | ((with_reducible apply x_setL); walk_at "tyhp"; rfl)
  | with_reducible refine x_lc ?_ | with_reducible refine x_for ?_ | with_reducible refine x_iStr ?_ | with_reducible refine x_qStr ?_ | with_reducible refine x_iLst ?_ | ((with_reducible apply x_qLst); walk_at "tysq")
  | with_reducible refine x_iRng1 ?_ | with_reducible refine x_iRng2 ?_ | ((with_reducible apply x_qRng1); walk_at "tyc") | ((with_reducible apply x_qRng2); walk_at "tyc") | with_reducible refine x_iEnS ?_ | with_reducible refine x_qEnS ?_
  | ((with_reducible apply x_slS); walk_at "tyc")
  | with_reducible refine x_lst ?_ | with_reducible refine x_tup ?_
  | with_reducible refine x_listZip ?_ | with_reducible refine x_iRev ?_ | ((with_reducible apply x_qRev); walk_at "tysq") | with_reducible refine x_dget ?_ | with_reducible refine x_dput ?_ | with_reducible refine x_tern ?_ | with_reducible refine x_replA ?_ | with_reducible refine x_replC ?_ | with_reducible refine x_sl3 ?_ | with_reducible refine x_iEnL ?_ | with_reducible refine x_lc2 ?_ | with_reducible refine x_ckw ?_ | with_reducible refine x_eqB ?_ | with_reducible refine x_fld ?_ | with_reducible refine x_sfld ?_ | with_reducible refine x_makeS ?_ | with_reducible refine x_methA ?_ | with_reducible refine x_fmt ?_ | with_reducible refine x_js0 ?_ | with_reducible refine x_js ?_ | ((with_reducible apply x_qJs); walk_at "tyc") | with_reducible refine x_jsE ?_ | with_reducible refine x_mkO ?_ | ((with_reducible apply x_ixT); walk_at "tysqT"; rfl)
  | with_reducible refine x_iteT ?_ | with_reducible refine x_iteF ?_ | with_reducible refine x_iteNT' ?_ | with_reducible refine x_iteNF' ?_)
local macro_rules | `(tactic| walk_at "sx") => `(tactic| repeat walk_at "sx1")
local macro_rules | `(tactic| walk_at "sxi") => `(tactic| repeat (first
  | with_reducible refine x_seq ?_ | with_reducible refine x_next ?_ | with_reducible refine x_Dnx ?_ | with_reducible refine x_Drt ?_ | with_reducible refine x_asg ?_ | ((with_reducible refine x_gname ?_); try dsimp only [List.set_cons_zero, List.set_cons_succ]) | with_reducible refine x_drop ?_ | with_reducible refine x_ifS ?_))
local macro_rules | `(tactic| walk_at "sxn") => `(tactic| repeat (first
  | with_reducible refine x_next ?_ | with_reducible refine x_Dnx ?_ | with_reducible refine x_Drt ?_ | with_reducible refine x_asg ?_ | ((with_reducible refine x_gname ?_); try dsimp only [List.set_cons_zero, List.set_cons_succ]) | with_reducible refine x_drop ?_))
def sp__law_integer : Sp := fun vs H Q _ => ∃ n : Int, vs = [.int n] ∧ Q (.bl true) H
theorem ok__law_integer {P : Program} {w : World} {K : PySem.W.Frag} {mg : Str → Option Value} {base : Heap} {A : Ad} (T : Txt P K mg A) : FnOk P w K mg base CX0 1 A.a__law_integer A.fd__law_integer ["actual"] sp__law_integer := by
  refine T.F__law_integer.ok sc__law_integer (fun vs H Q E h => ?_) (fun cdv A' outer s H vs Q E hr h => ?_)
  · obtain ⟨n, rfl, _⟩ := h
    rfl
  · obtain ⟨n, rfl, k⟩ := h
    have hu := hu_of hr
    refine ⟨_, (pss_one (ps_ret (pe_and (pe_callB call_isi (by rfl) T.n_isinstance bt_isinstance (pa_cons (pv 0) (pa_cons (pe_bltn (v := .ty "int") (by rfl) T.n_int bt_int rfl) pa_nil))) (pe_one (pe_not (pe_callB call_isi (by rfl) T.n_isinstance bt_isinstance (pa_cons (pv 0) (pa_cons (pe_bltn (v := .ty "bool") (by rfl) T.n_bool bt_bool rfl) pa_nil)))))))),
      ?_⟩
    refine x_start (σ := [some (.int n)]) rfl ?_
    walk_at "sx"
    refine x_isiI rfl ?_
    walk_at "sx"
    refine x_isiI rfl ?_
    walk_at "sx"
    exact k
/-! the answer -/
def sp__law_place : Sp := fun vs H Q _ => ∃ (q r : Addr) (n : Nat) (P : List PT) (v : List Nat) (i a : Nat), vs = [.ref q, .ref r] ∧ PairsIn H q P ∧ PBnd P ∧ H r = some (.tup [.int (i : Nat), .int (a : Nat)]) ∧ PlaceOk P n v i a ∧ Q (.bl true) H
theorem ok__law_place {P : Program} {w : World} {K : PySem.W.Frag} {mg : Str → Option Value} {base : Heap} {A : Ad} (T : Txt P K mg A) : FnOk P w K mg base CX0 2 A.a__law_place A.fd__law_place ["pairs", "place"] sp__law_place := by
  refine T.F__law_place.ok sc__law_place (fun vs H Q E h => ?_) (fun cdv A' outer s H vs Q E hr h => ?_)
  · obtain ⟨q, r, n, P0, v, i, a, rfl, _⟩ := h
    rfl
  · obtain ⟨q, r, n, P0, v, i, a, rfl, hq, hz, hr1, hp, k⟩ := h
    have hu := hu_of hr
    refine ⟨_, (pss_cons (ps_if (PW.pt (pw_or (pt_not (pt_val (pe_callB call_isi (by rfl) T.n_isinstance bt_isinstance (pa_cons (pv 1) (pa_cons (pe_bltn (v := .ty "tuple") (by rfl) T.n_tuple bt_tuple rfl) pa_nil))))) (pw_or1 (pt_cmpR op_ne (pe_callB (show CallR _ _ (qLen K) from call_len_seq) (by rfl) T.n_len bt_len (pa_cons (pv 1) pa_nil)) pe_int (nomark _)))))
    (pss_one (ps_ret pe_bl))
    pss_nil)
    (pss_cons (ps_if (PW.pt (pw_or (pt_not (pt_val (pe_call (ok__law_integer (w := w) T) (hr.mono (by decide)) rfl T.g__law_integer T.F__law_integer.kp T.b__law_integer .nil pass0 (pa_cons (pe_ix (show IxR _ (rIxT K) from ix_tup) (pv 1) pe_int (fun _ _ => rfl)) pa_nil)))) (pw_or1 (pt_not (pt_val (pe_call (ok__law_integer (w := w) T) (hr.mono (by decide)) rfl T.g__law_integer T.F__law_integer.kp T.b__law_integer .nil pass0 (pa_cons (pe_ix (show IxR _ (rIxT K) from ix_tup) (pv 1) pe_int (fun _ _ => rfl)) pa_nil)))))))
    (pss_one (ps_ret pe_bl))
    pss_nil)
    (pss_cons (ps_if (PW.pt (pw_or (pt_cmpR op_lt (pe_ix (show IxR _ (rIxT K) from ix_tup) (pv 1) pe_int (fun _ _ => rfl)) pe_int (nomark _)) (pw_or1 (pt_cmpR op_ge (pe_ix (show IxR _ (rIxT K) from ix_tup) (pv 1) pe_int (fun _ _ => rfl)) (pe_callB (show CallR _ _ (qLen K) from call_len_seq) (by rfl) T.n_len bt_len (pa_cons (pv 0) pa_nil)) (nomark _)))))
    (pss_one (ps_ret pe_bl))
    pss_nil)
    (pss_one (ps_ret (pe_and (pe_cmpR op_ge (pe_ix (show IxR _ (rIxT K) from ix_tup) (pv 1) pe_int (fun _ _ => rfl)) pe_int (nomark _)) (pe_one (pe_cmpR op_lt (pe_ix (show IxR _ (rIxT K) from ix_tup) (pv 1) pe_int (fun _ _ => rfl)) (pe_callB call_len_str (by rfl) T.n_len bt_len (pa_cons (pe_ix (show IxR _ (rIxT K) from ix_tup) (pe_ix (show IxR _ (rIxL K) from ix_list) (pv 0) (pe_ix (show IxR _ (rIxT K) from ix_tup) (pv 1) pe_int (fun _ _ => rfl)) (fun _ _ => rfl)) pe_int (fun _ _ => rfl)) pa_nil)) (nomark _))))))))),
      ?_⟩
    refine x_start (σ := [some (.ref q), some (.ref r)]) rfl ?_
    obtain ⟨as, rfl, hq2, hra⟩ := id hq
    obtain ⟨p8, hp81, hp82, hp83⟩ := id hp
    rw [List.getElem?_map] at hp81
    obtain ⟨z8, hz8, rfl⟩ : ∃ z8, as[i]? = some z8 ∧ z8.2 = p8 := by
      cases e : as[i]? with
      | none => rw [e] at hp81; cases hp81
      | some z8 => rw [e] at hp81; exact ⟨z8, rfl, Option.some.inj hp81⟩
    have hm8 : z8 ∈ as := List.mem_of_getElem? hz8
    have z81 : H z8.1 = some (.tup [S z8.2.1, S z8.2.2]) := hra z8 hm8
    obtain ⟨z8a, z8b⟩ := hz.2 z8.2 (List.mem_map.mpr ⟨z8, hm8, rfl⟩)
    have hil : i < as.length := (List.getElem?_eq_some_iff.mp hz8).1
    walk_at "sx"
    refine x_isiT hr1 rfl ?_
    walk_at "sx"
    refine x_lenT (.inl (.inl hr1)) ?_
    walk_at "sx"
    refine ⟨_, rfl, ?_⟩
    walk_at "sx"
    refine ⟨_, rfl, ?_⟩
    walk_at "sx"
    refine ⟨_, rfl, ?_⟩
    walk_at "sx"
    rw [if_neg (by simp)]
    walk_at "sx"
    rw [if_neg (by rw [decide_eq_true_eq, List.length_map]; omega)]
    walk_at "sx"
    rw [if_pos (by simp)]
    walk_at "sx"
    refine x_ixL (.inl (.inl hq2)) (v := .ref z8.1) (atI_nat (by rw [List.getElem?_map, hz8]; rfl)) ?_
    walk_at "sx"
    have e : decide ((a : Int) < (z8.2.1.length : Nat)) = true := by rw [decide_eq_true_eq]; omega
    rw [e]
    exact k
def sp__law_clash : Sp := fun vs H Q _ => ∃ (q r r1 r2 : Addr) (n : Nat) (P : List PT) (v : List Nat) (i a j b : Nat), vs = [.ref q, .int (n : Nat), .ref r] ∧ PairsIn H q P ∧ PBnd P ∧ n ≤ 1000 ∧ (∀ p ∈ P, p.1.length = p.2.length) ∧ H r = some (.tup [S clashS, .ref r1, .ref r2]) ∧
  H r1 = some (.tup [.int (i : Nat), .int (a : Nat)]) ∧ H r2 = some (.tup [.int (j : Nat), .int (b : Nat)]) ∧ PlaceOk P n v i a ∧ PlaceOk P n v j b ∧ sgn P i a ≠ sgn P j b ∧ Q (.bl true) H
theorem place_at {as : List AP} {n : Nat} {v : List Nat} {i a : Nat} (h : PlaceOk (as.map fun z => z.2) n v i a) : ∃ z, as[i]? = some z ∧ a < z.2.1.length ∧ view z.2.1 a n = v ∧ sgn (as.map fun z => z.2) i a = z.2.2.getD a 0 := by
  obtain ⟨p8, hp81, hp82, hp83⟩ := h
  have hp := hp81
  rw [List.getElem?_map] at hp81
  cases e : as[i]? with
  | none => rw [e] at hp81; cases hp81
  | some z8 =>
    rw [e] at hp81
    obtain rfl : z8.2 = p8 := Option.some.inj hp81
    refine ⟨z8, rfl, hp82, hp83, ?_⟩
    show (((as.map fun z => z.2).getD i ([], [])).2).getD a 0 = z8.2.2.getD a 0
    have e3 : (as.map fun z => z.2).getD i ([], []) = z8.2 := by
      rw [List.getD_eq_getElem?_getD, hp]
      rfl
    rw [e3]
theorem ok__law_clash {P : Program} {w : World} {K : PySem.W.Frag} {mg : Str → Option Value} {base : Heap} {A : Ad} (T : Txt P K mg A) : FnOk P w K mg base CX0 3 A.a__law_clash A.fd__law_clash ["pairs", "size", "answer"] sp__law_clash := by
  refine T.F__law_clash.ok sc__law_clash (fun vs H Q E h => ?_) (fun cdv A' outer s H vs Q E hr h => ?_)
  · obtain ⟨q, r, r1, r2, n, P0, v, i, a, j, b, rfl, _⟩ := h
    rfl
  · obtain ⟨q, r, r1, r2, n, P0, v, i, a, j, b, rfl, hq, hz, hn, hlen, hr0, hr1, hr2, hp1, hp2, hs, k⟩ := h
    have hu := hu_of hr
    refine ⟨_, (pss_cons (ps_if (PW.pt (pw_or (pt_cmpR op_ne (pe_callB (show CallR _ _ (qLen K) from call_len_seq) (by rfl) T.n_len bt_len (pa_cons (pv 2) pa_nil)) pe_int (nomark _)) (pw_or (pt_not (pt_val (pe_call (ok__law_place (w := w) T) (hr.mono (by decide)) rfl T.g__law_place T.F__law_place.kp T.b__law_place .nil pass0 (pa_cons (pv 0) (pa_cons (pe_ix (show IxR _ (rIxT K) from ix_tup) (pv 2) pe_int (fun _ _ => rfl)) pa_nil))))) (pw_or1 (pt_not (pt_val (pe_call (ok__law_place (w := w) T) (hr.mono (by decide)) rfl T.g__law_place T.F__law_place.kp T.b__law_place .nil pass0 (pa_cons (pv 0) (pa_cons (pe_ix (show IxR _ (rIxT K) from ix_tup) (pv 2) pe_int (fun _ _ => rfl)) pa_nil)))))))))
    (pss_one (ps_ret pe_bl))
    pss_nil)
    (pss_cons (ps_set (i := 3) sc__law_clash.nd rfl (Or.inl rfl) (pe_ix (show IxR _ (rIxL K) from ix_list) (pv 0) (pe_ix (show IxR _ (rIxT K) from ix_tup) (pe_ix (show IxR _ (rIxT K) from ix_tup) (pv 2) pe_int (fun _ _ => rfl)) pe_int (fun _ _ => rfl)) (fun _ _ => rfl)))
    (pss_cons (ps_set (i := 4) sc__law_clash.nd rfl (Or.inl rfl) (pe_ix (show IxR _ (rIxL K) from ix_list) (pv 0) (pe_ix (show IxR _ (rIxT K) from ix_tup) (pe_ix (show IxR _ (rIxT K) from ix_tup) (pv 2) pe_int (fun _ _ => rfl)) pe_int (fun _ _ => rfl)) (fun _ _ => rfl)))
    (pss_cons (ps_if (pt_cmpR op_ne (pe_call (ok__law_view (w := w) T) (hr.mono (by decide)) rfl T.g__law_view T.F__law_view.kp T.b__law_view .nil pass0 (pa_cons (pe_ix (show IxR _ (rIxT K) from ix_tup) (pv 3) pe_int (fun _ _ => rfl)) (pa_cons (pe_ix (show IxR _ (rIxT K) from ix_tup) (pe_ix (show IxR _ (rIxT K) from ix_tup) (pv 2) pe_int (fun _ _ => rfl)) pe_int (fun _ _ => rfl)) (pa_cons (pv 1) pa_nil)))) (pe_call (ok__law_view (w := w) T) (hr.mono (by decide)) rfl T.g__law_view T.F__law_view.kp T.b__law_view .nil pass0 (pa_cons (pe_ix (show IxR _ (rIxT K) from ix_tup) (pv 4) pe_int (fun _ _ => rfl)) (pa_cons (pe_ix (show IxR _ (rIxT K) from ix_tup) (pe_ix (show IxR _ (rIxT K) from ix_tup) (pv 2) pe_int (fun _ _ => rfl)) pe_int (fun _ _ => rfl)) (pa_cons (pv 1) pa_nil)))) (nomark _))
    (pss_one (ps_ret pe_bl))
    pss_nil)
    (pss_one (ps_ret (pe_cmpR op_ne (pe_ix ix_str (pe_ix (show IxR _ (rIxT K) from ix_tup) (pv 3) pe_int (fun _ _ => rfl)) (pe_ix (show IxR _ (rIxT K) from ix_tup) (pe_ix (show IxR _ (rIxT K) from ix_tup) (pv 2) pe_int (fun _ _ => rfl)) pe_int (fun _ _ => rfl)) (fun _ _ => rfl)) (pe_ix ix_str (pe_ix (show IxR _ (rIxT K) from ix_tup) (pv 4) pe_int (fun _ _ => rfl)) (pe_ix (show IxR _ (rIxT K) from ix_tup) (pe_ix (show IxR _ (rIxT K) from ix_tup) (pv 2) pe_int (fun _ _ => rfl)) pe_int (fun _ _ => rfl)) (fun _ _ => rfl)) (nomark _)))))))),
      ?_⟩
    refine x_start (σ := [some (.ref q), some (.int (n : Nat)), some (.ref r), none, none]) rfl ?_
    obtain ⟨as, rfl, hq2, hra⟩ := id hq
    obtain ⟨z1, g1, g2, g3, g4⟩ := place_at hp1
    obtain ⟨z2, y1, y2, y3, y4⟩ := place_at hp2
    have m1 : z1 ∈ as := List.mem_of_getElem? g1
    have m2 : z2 ∈ as := List.mem_of_getElem? y1
    have t1 : H z1.1 = some (.tup [S z1.2.1, S z1.2.2]) := hra z1 m1
    have t2 : H z2.1 = some (.tup [S z2.2.1, S z2.2.2]) := hra z2 m2
    obtain ⟨b1, b2⟩ := hz.2 z1.2 (List.mem_map.mpr ⟨z1, m1, rfl⟩)
    obtain ⟨c1, c2⟩ := hz.2 z2.2 (List.mem_map.mpr ⟨z2, m2, rfl⟩)
    have l1 : z1.2.1.length = z1.2.2.length := hlen _ (List.mem_map.mpr ⟨z1, m1, rfl⟩)
    have l2 : z2.2.1.length = z2.2.2.length := hlen _ (List.mem_map.mpr ⟨z2, m2, rfl⟩)
    have hat : ∀ (l : List Nat) (k : Nat), k < l.length → atI l (k : Nat) = some (l.getD k 0) := fun l k h => atI_nat (by rw [List.getD_eq_getElem?_getD, List.getElem?_eq_getElem h]; rfl)
    walk_at "sx"
    refine x_lenT (.inl (.inl hr0)) ?_
    walk_at "sx"
    refine ⟨_, rfl, ?_⟩
    walk_at "sx"
    refine ⟨q, r1, n, _, v, i, a, rfl, hq, hz, hr1, hp1, _, rfl, ?_⟩
    walk_at "sx"
    refine ⟨q, r2, n, _, v, j, b, rfl, hq, hz, hr2, hp2, _, rfl, ?_⟩
    walk_at "sx"
    refine x_ixL (.inl (.inl hq2)) (v := .ref z1.1) (atI_nat (by rw [List.getElem?_map, g1]; rfl)) ?_
    walk_at "sx"
    refine x_ixL (.inl (.inl hq2)) (v := .ref z2.1) (atI_nat (by rw [List.getElem?_map, y1]; rfl)) ?_
    walk_at "sx"
    refine ⟨z1.2.1, a, n, rfl, by omega, by omega, by omega, ?_⟩
    walk_at "sx"
    refine ⟨z2.2.1, b, n, rfl, by omega, by omega, by omega, ?_⟩
    walk_at "sx"
    rw [if_neg (by rw [g3, y3]; simp)]
    walk_at "sx"
    refine x_ixS (by omega) (hat z1.2.2 a (by omega)) ?_
    walk_at "sx"
    refine x_ixS (by omega) (hat z2.2.2 b (by omega)) ?_
    walk_at "sx"
    rw [g4, y4] at hs
    have e : (!decide ([z1.2.2.getD a 0] = [z2.2.2.getD b 0])) = true := by
      rw [Bool.not_eq_true', decide_eq_false_iff_not]
      exact fun z => hs (List.singleton_inj.mp z)
    rw [e]
    exact k
def sp__law_due_image : Sp := fun vs H Q _ => ∃ (ta : Addr) (u : List Nat) (n : Nat) (es : List EN), vs = [.ref ta, S u, .int (n : Nat)] ∧ H ta = some (.dK (tabK es)) ∧ u.length ≤ 1000 ∧ n ≤ 1000 ∧ Q (tellI (image es n u)) H
theorem ok__law_due_image {P : Program} {w : World} {K : PySem.W.Frag} {mg : Str → Option Value} {base : Heap} {A : Ad} (T : Txt P K mg A) : FnOk P w K mg base CX0 2 A.a__law_due_image A.fd__law_due_image ["table", "word", "size"] sp__law_due_image := by
  refine T.F__law_due_image.ok sc__law_due_image (fun vs H Q E h => ?_) (fun cdv A' outer s H vs Q E hr h => ?_)
  · obtain ⟨ta, u, n, es, rfl, _⟩ := h
    rfl
  · obtain ⟨ta, u, n, es, rfl, h2, hw, hn, k⟩ := h
    have hu := hu_of hr
    refine ⟨_, (pss_cons (ps_set (i := 3) sc__law_due_image.nd rfl (Or.inl rfl) pe_str)
    (pss_cons (ps_for PassesOwn.never rfl (pi_range1 (by rfl) T.n_range (pa_cons (pe_callB call_len_str (by rfl) T.n_len bt_len (pa_cons (pv 1) pa_nil)) pa_nil)) (pg_name (i := 4) sc__law_due_image.nd rfl (Or.inl rfl))
    (pss_cons (ps_set (i := 5) sc__law_due_image.nd rfl (Or.inl rfl) (pe_call (ok__law_view (w := w) T) (hr.mono (by decide)) rfl T.g__law_view T.F__law_view.kp T.b__law_view .nil pass0 (pa_cons (pv 1) (pa_cons (pv 4) (pa_cons (pv 2) pa_nil)))))
    (pss_cons (ps_if (pt_cmp (pc_dnotin hu (pv 5) (pv 0)))
    (pss_one (ps_ret pe_non))
    pss_nil)
    (pss_one (ps_set (i := 3) sc__law_due_image.nd rfl (Or.inl rfl) (pe_op op_add_str (pv 3) (pe_dget hu (pv 0) (pv 5) (fun _ _ => rfl))))))))
    (pss_one (ps_ret (pv 3))))),
      ?_⟩
    refine x_start (σ := [some (.ref ta), some (S u), some (.int (n : Nat)), none, none, none]) rfl ?_
    walk_at "sx"
    rw [Int.toNat_natCast]
    refine for_R (fun i σ H2 => ∃ (acc : List Nat) (o4 o5 : Option V), σ = [some (.ref ta), some (S u), some (.int (n : Nat)), some (S acc), o4, o5] ∧ H2 = H ∧ acc.length = i ∧ imgN es n u (u.length - i) i acc = image es n u) ⟨[], _, _, rfl, rfl, rfl, rfl⟩ ?_ ?_
    · rintro i σ H2 hi ⟨acc, o4, o5, rfl, rfl, hal, him⟩
      rw [show u.length - i = (u.length - (i + 1)) + 1 by omega, imgN] at him
      walk_at "sx"
      rw [Int.zero_add]
      refine ⟨u, i, n, rfl, by omega, by omega, by omega, ?_⟩
      have tl := tabK_look es (view u i n)
      walk_at "sx"
      refine x_qDNotIn h2 ?_
      rw [tl]
      cases hl : look es (view u i n) with
      | none =>
        rw [hl] at him
        refine ⟨true, rfl, ?_⟩
        rw [if_pos rfl]
        rw [← him] at k
        walk_at "sx"
        exact k
      | some s =>
        rw [hl] at him tl
        refine ⟨false, rfl, ?_⟩
        rw [if_neg (by decide)]
        walk_at "sx"
        refine x_qDGetS h2 tl ?_
        refine x_addS (by rw [List.length_singleton]; omega) ?_
        walk_at "sx"
        exact ⟨acc ++ [s], _, _, rfl, rfl, by rw [List.length_append, hal]; rfl, him⟩
    · rintro σ H2 ⟨acc, o4, o5, rfl, rfl, hal, him⟩
      rw [Nat.sub_self, imgN] at him
      rw [← him] at k
      walk_at "sx"
      exact k

end TY

namespace TY
open PySem PyProof.Rows PySem.Spec L2 L2H
local macro_rules | `(tactic| walk_at "tylit") => `(tactic| first | exact lit_0 | exact lit_1 | exact lit_2 | exact lit_3 | exact lit_4 | exact lit_5 | exact lit_6 | exact lit_7 | exact lit_8 | exact lit_9 | exact lit_10 | exact lit_11 | exact lit_12 | exact lit_13 | exact lit_14 | exact lit_15 | exact lit_16 | exact lit_17 | exact lit_18 | exact lit_19 | exact lit_20 | exact lit_21 | exact lit_22)
/-! the word: one step; all steps -/
local macro_rules | `(tactic| walk_at "tysq") => `(tactic| first | assumption | exact Or.inl (Or.inl (by assumption)) | exact Or.inl (Or.inl upd_same))
local macro_rules | `(tactic| walk_at "tysqT") => `(tactic| first | assumption | exact Or.inl (Or.inl (by assumption)) | exact Or.inl (Or.inl upd_same))
local macro_rules | `(tactic| walk_at "tyhp") => `(tactic| first | assumption | exact upd_same)
local macro_rules | `(tactic| walk_at "tyc") => `(tactic| first | decide | assumption | omega | (simp only [List.length_map, List.length_append, List.length_cons, List.length_nil]; omega) | exact Or.inl ⟨by omega, by omega⟩ | exact ⟨by omega, by omega⟩ | exact ⟨by decide, by decide⟩)
local macro_rules | `(tactic| walk_at "sx1") => `(tactic| first
  | with_reducible refine x_seq ?_ | with_reducible refine x_next ?_ | with_reducible refine x_Dnx ?_ | with_reducible refine x_Drt ?_
  | with_reducible refine x_asg ?_ | ((with_reducible refine x_gname ?_); try dsimp only [List.set_cons_zero, List.set_cons_succ]) | with_reducible refine x_drop ?_ | with_reducible refine x_ret ?_
  | with_reducible refine x_ifS ?_ | with_reducible refine x_ifE ?_ | ((with_reducible apply x_var); (first | rfl | assumption)) | ((with_reducible apply x_cStr); with_reducible walk_at "tylit") | with_reducible refine x_c ?_
  | with_reducible refine l_addS ?_ | with_reducible refine l_inSign ?_ | with_reducible refine l_niSign ?_ | with_reducible refine l_repS ?_ | with_reducible refine x_then ?_ | with_reducible refine x_iTup ?_ | ((with_reducible apply x_gTup); (walk_at "tysqT"); rfl) | with_reducible refine x_gC ?_ | with_reducible refine x_gN ?_ | with_reducible refine x_nget ?_ | with_reducible refine x_nin ?_ | with_reducible refine x_nput ?_ | with_reducible refine x_nget2 ?_ | with_reducible refine x_inO ?_ | with_reducible refine x_callOA ?_ | with_reducible refine x_setd ?_ | with_reducible refine l_dictD ?_ | with_reducible refine x_din ?_ | with_reducible refine x_dnotin ?_ | with_reducible refine l_repA ?_ | with_reducible refine l_leS ?_ | with_reducible refine l_isN ?_ | with_reducible refine l_notN ?_
  | with_reducible refine x_op ?_ | with_reducible refine x_un ?_ | with_reducible refine x_I0 ?_ | ((with_reducible apply x_I); walk_at "tyc") | with_reducible refine x_U ?_
  | with_reducible refine x_eqI ?_ | with_reducible refine x_neI ?_ | with_reducible refine x_eqOne ?_ | with_reducible refine x_eqSt ?_ | with_reducible refine x_neSt ?_ | with_reducible refine x_eqS ?_ | with_reducible refine x_neS ?_
  | with_reducible refine x_test ?_ | with_reducible refine x_tB ?_ | with_reducible refine x_bl ?_ | with_reducible refine x_bl2 ?_
  | with_reducible refine x_yes ?_ | with_reducible refine x_and ?_ | with_reducible refine x_or ?_ | with_reducible refine x_not ?_ | with_reducible refine x_andV ?_ | with_reducible refine x_orV ?_ | with_reducible refine x_notV ?_
  | with_reducible refine x_nil ?_ | with_reducible refine x_cons ?_ | with_reducible refine l_len ?_ | with_reducible refine l_lenS ?_ | with_reducible refine l_int1 ?_ | with_reducible refine l_abs ?_ | with_reducible refine l_max2 ?_ | with_reducible refine l_min2 ?_ | with_reducible refine l_list ?_ | with_reducible refine l_listD ?_ | with_reducible refine l_strI ?_ | with_reducible refine x_cb ?_ | with_reducible refine x_call ?_ | with_reducible refine x_callS ?_ | with_reducible refine x_callE ?_
  | ((with_reducible apply x_aug); (first | rfl | assumption)) | with_reducible refine x_ipI ?_ | with_reducible refine x_sl ?_ | with_reducible refine x_nopart ?_ | with_reducible refine x_part ?_ | with_reducible refine x_int ?_
  | with_reducible refine x_gsub ?_ | with_reducible refine x_bm ?_ | with_reducible refine x_bm0 ?_ | with_reducible refine l_upper ?_ | with_reducible refine l_join ?_ | with_reducible refine l_index ?_ | with_reducible refine x_m0 ?_ | with_reducible refine x_m1 ?_ | with_reducible refine x_strA ?_ | with_reducible refine x_augS ?_
  | ((with_reducible apply x_tyL); walk_at "tysq")
  | ((with_reducible apply x_addS); walk_at "tyc") | with_reducible refine x_inSign ?_ | with_reducible refine x_niSign ?_ | with_reducible refine x_leS ?_ | with_reducible refine x_isN ?_ | with_reducible refine x_notN ?_ | with_reducible refine x_max2 ?_ | with_reducible refine x_min2 ?_
  | ((with_reducible apply x_lenS); walk_at "tyc") | ((with_reducible apply x_lenL); walk_at "tysq")
  | with_reducible refine x_int1 ?_ | with_reducible refine x_abs ?_
  | ((with_reducible apply x_ixL); walk_at "tysq"; rfl) | ((with_reducible apply x_setL); walk_at "tyhp"; rfl)
  | with_reducible refine x_lc ?_ | with_reducible refine x_for ?_ | with_reducible refine x_iStr ?_ | with_reducible refine x_qStr ?_ | with_reducible refine x_iLst ?_ | ((with_reducible apply x_qLst); walk_at "tysq")
  | with_reducible refine x_iRng1 ?_ | with_reducible refine x_iRng2 ?_ | ((with_reducible apply x_qRng1); walk_at "tyc") | ((with_reducible apply x_qRng2); walk_at "tyc") | with_reducible refine x_iEnS ?_ | with_reducible refine x_qEnS ?_
  | ((with_reducible apply x_slS); walk_at "tyc")
  | with_reducible refine x_lst ?_ | with_reducible refine x_tup ?_
  | with_reducible refine x_listZip ?_ | with_reducible refine x_iRev ?_ | ((with_reducible apply x_qRev); walk_at "tysq") | with_reducible refine x_dget ?_ | with_reducible refine x_dput ?_ | with_reducible refine x_tern ?_ | with_reducible refine x_replA ?_ | with_reducible refine x_replC ?_ | with_reducible refine x_sl3 ?_ | with_reducible refine x_iEnL ?_ | with_reducible refine x_lc2 ?_ | with_reducible refine x_ckw ?_ | with_reducible refine x_eqB ?_ | with_reducible refine x_fld ?_ | with_reducible refine x_sfld ?_ | with_reducible refine x_makeS ?_ | with_reducible refine x_methA ?_ | with_reducible refine x_fmt ?_ | with_reducible refine x_js0 ?_ | with_reducible refine x_js ?_ | ((with_reducible apply x_qJs); walk_at "tyc") | with_reducible refine x_jsE ?_ | with_reducible refine x_mkO ?_ | ((with_reducible apply x_ixT); walk_at "tysqT"; rfl)
  | with_reducible refine x_iteT ?_ | with_reducible refine x_iteF ?_ | with_reducible refine x_iteNT' ?_ | with_reducible refine x_iteNF' ?_)
local macro_rules | `(tactic| walk_at "sx") => `(tactic| repeat walk_at "sx1")
local macro_rules | `(tactic| walk_at "sxi") => `(tactic| repeat (first
  | with_reducible refine x_seq ?_ | with_reducible refine x_next ?_ | with_reducible refine x_Dnx ?_ | with_reducible refine x_Drt ?_ | with_reducible refine x_asg ?_ | ((with_reducible refine x_gname ?_); try dsimp only [List.set_cons_zero, List.set_cons_succ]) | with_reducible refine x_drop ?_ | with_reducible refine x_ifS ?_))
local macro_rules | `(tactic| walk_at "sxn") => `(tactic| repeat (first
  | with_reducible refine x_next ?_ | with_reducible refine x_Dnx ?_ | with_reducible refine x_Drt ?_ | with_reducible refine x_asg ?_ | ((with_reducible refine x_gname ?_); try dsimp only [List.set_cons_zero, List.set_cons_succ]) | with_reducible refine x_drop ?_))
/-! a good turner -/
theorem mem_tabK {es : List EN} : ∀ {a : Key × V}, a ∈ tabK es → ∃ v s, a.1 = .inr (st v) ∧ look es v = some s := by
  refine rec_end (P := fun es => ∀ {a : Key × V}, a ∈ tabK es → ∃ v s, a.1 = .inr (st v) ∧ look es v = some s) (fun h => by cases h) (fun l x ih a h => ?_) es
  have up : ∀ {v s}, look l v = some s → ∃ s', look (l ++ [x]) v = some s' := fun {v s} h => by
    rw [look_snoc]
    by_cases e : x.1 = v
    · exact ⟨_, if_pos e⟩
    · rw [if_neg e]; exact ⟨s, h⟩
  rw [tabK_snoc] at h
  unfold putK at h
  split at h
  · obtain ⟨kv, m, e⟩ := List.mem_map.mp h
    obtain ⟨v, s, e1, e2⟩ := ih m
    obtain ⟨s', e3⟩ := up e2
    refine ⟨v, s', ?_, e3⟩
    rw [← e1, ← e]
    split <;> rfl
  · rcases List.mem_append.mp h with m | m
    · obtain ⟨v, s, e1, e2⟩ := ih m
      obtain ⟨s', e3⟩ := up e2
      exact ⟨v, s', e1, e3⟩
    · rw [List.mem_singleton.mp m]
      exact ⟨x.1, x.2, rfl, by rw [look_snoc, if_pos rfl]⟩
def sp__law_good_turner (A : Ad) : Sp := fun vs H Q _ => ∃ (t d q m : Addr) (lt im : List Nat) (n : Nat) (P : List PT) (es : List EN) (U : List (List Nat)), vs = [.ref t, S lt, S im, .int (n : Nat), .ref d, .ref q, .ref m] ∧ TurnAt A H t lt im n es ∧ es = ents n P ∧ H d = some (.dK (tabK es)) ∧ PairsIn H q P ∧ PBnd P ∧ lt.length ≤ 1000 ∧ im.length ≤ 1000 ∧ n ≤ 1000 ∧
  (∀ p ∈ P, bwGo lt 0 p.1 = none ∧ p.1.length = p.2.length) ∧ Fun1 es ∧ H m = some (.lst (U.map S)) ∧ (∀ u ∈ U, u.length ≤ 1000 ∧ bwGo lt 0 u = none) ∧ ∀ H', Ex H H' → Q (.bl true) H'
theorem ok__law_good_turner {P : Program} {w : World} {K : PySem.W.Frag} {mg : Str → Option Value} {base : Heap} {A : Ad} (T : Txt P K mg A) : FnOk P w K mg base CX0 5 A.a__law_good_turner A.fd__law_good_turner ["turner", "letters", "images", "size", "table", "pairs", "more"] (sp__law_good_turner A) := by
  refine T.F__law_good_turner.ok sc__law_good_turner (fun vs H Q E h => ?_) (fun cdv A' outer s H vs Q E hr h => ?_)
  · obtain ⟨t, d, q, m, lt, im, n, P0, es, U, rfl, _⟩ := h
    rfl
  · obtain ⟨t, d, q, m, lt, im, n, P0, es, U, rfl, ht, hes, hd, hq, hz, hlt, him, hn, hp, hf, hm, hmu, k⟩ := h
    have hu := hu_of hr
    refine ⟨_, (pss_cons (ps_if (PW.pt (pw_or (pt_not (pt_val (pe_callB call_isi (by rfl) T.n_isinstance bt_isinstance (pa_cons (pv 0) (pa_cons (pe_glob (v := .ref A.c_Turner) rfl T.g_Turner rfl) pa_nil))))) (pw_or (pt_cmpR op_ne (pe_fld (pv 0) rfl) (pv 1) (nomark _)) (pw_or1 (pt_cmpR op_ne (pe_fld (pv 0) rfl) (pv 2) (nomark _))))))
    (pss_one (ps_ret pe_bl))
    pss_nil)
    (pss_cons (ps_if (PW.pt (pw_or (pt_cmpR op_ne (pe_fld (pv 0) rfl) (pv 3) (nomark _)) (pw_or (pt_not (pt_val (pe_callB call_isi (by rfl) T.n_isinstance bt_isinstance (pa_cons (pe_fld (pv 0) rfl) (pa_cons (pe_bltn (v := .ty "dict") (by rfl) T.n_dict bt_dict rfl) pa_nil))))) (pw_or1 (pt_cmpR op_ne (pe_callB call_lenD (by rfl) T.n_len bt_len (pa_cons (pe_fld (pv 0) rfl) pa_nil)) (pe_callB call_lenD (by rfl) T.n_len bt_len (pa_cons (pv 4) pa_nil)) (nomark _))))))
    (pss_one (ps_ret pe_bl))
    pss_nil)
    (pss_cons (ps_lock (ps_for PassesOwn.never rfl (pi_keys (pv 4)) (pg_name (i := 7) sc__law_good_turner.nd rfl (Or.inl rfl))
    (pss_one (ps_if (PW.pt (pw_or (pt_cmp (pc_dnotin hu (pv 7) (pe_fld (pv 0) rfl))) (pw_or1 (pt_cmpR op_ne (pe_dget hu (pe_fld (pv 0) rfl) (pv 7) (fun _ _ => rfl)) (pe_dget hu (pv 4) (pv 7) (fun _ _ => rfl)) (nomark _)))))
    (pss_one (ps_ret pe_bl))
    pss_nil))))
    (pss_cons (ps_for PassesOwn.never rfl (pi_list (pv 5)) (pg_name (i := 8) sc__law_good_turner.nd rfl (Or.inl rfl))
    (pss_one (ps_if (pt_cmpR op_ne (pe_callOA (CX := L2.CX P w) (k := 4) (pv 0) (hr.mono (by decide)) passX (pa_cons (pe_ix (show IxR _ (rIxT K) from ix_tup) (pv 8) pe_int (fun _ _ => rfl)) pa_nil)) (pe_ix (show IxR _ (rIxT K) from ix_tup) (pv 8) pe_int (fun _ _ => rfl)) (nomark _))
    (pss_one (ps_ret pe_bl))
    pss_nil)))
    (pss_cons (ps_for PassesOwn.never rfl (pi_list (pv 6)) (pg_name (i := 9) sc__law_good_turner.nd rfl (Or.inl rfl))
    (pss_cons (ps_set (i := 10) sc__law_good_turner.nd rfl (Or.inl rfl) (pe_call (ok__law_due_image (w := w) T) (hr.mono (by decide)) rfl T.g__law_due_image T.F__law_due_image.kp T.b__law_due_image .nil pass0 (pa_cons (pv 4) (pa_cons (pv 9) (pa_cons (pv 3) pa_nil)))))
    (pss_cons (ps_set (i := 11) sc__law_good_turner.nd rfl (Or.inl rfl) (pe_callOA (CX := L2.CX P w) (k := 4) (pv 0) (hr.mono (by decide)) passX (pa_cons (pv 9) pa_nil)))
    (pss_one (ps_if (PW.pt (pw_or (PW.pt (pw_and (pt_cmpR op_isN (pv 10) pe_non (nomark _)) (pw_and1 (pt_cmpR op_notN (pv 11) pe_non (nomark _))))) (pw_or1 (PW.pt (pw_and (pt_cmpR op_notN (pv 10) pe_non (nomark _)) (pw_and1 (pt_cmpR op_ne (pv 11) (pv 10) (nomark _))))))))
    (pss_one (ps_ret pe_bl))
    pss_nil)))))
    (pss_one (ps_ret pe_bl))))))),
      ?_⟩
    refine x_start (σ := [some (.ref t), some (S lt), some (S im), some (.int (n : Nat)), some (.ref d), some (.ref q), some (.ref m), none, none, none, none, none]) rfl ?_
    obtain ⟨as, rfl, hq2, hra⟩ := id hq
    obtain ⟨dx, ta, h1, h2⟩ := id ht
    walk_at "sx"
    refine x_isiO T.ob_Turner h1 T.io_Turner_Turner ?_
    walk_at "sx"
    refine x_qFld T.cl_Turner T.nf_Turner_letters h1 rfl ?_
    walk_at "sx"
    rw [if_neg (by simp)]
    walk_at "sx"
    refine x_qFld T.cl_Turner T.nf_Turner_images h1 rfl ?_
    walk_at "sx"
    rw [if_neg (by simp)]
    walk_at "sx"
    refine x_qFld T.cl_Turner T.nf_Turner_size h1 rfl ?_
    walk_at "sx"
    rw [if_neg (by simp)]
    walk_at "sx"
    refine x_qFld T.cl_Turner T.nf_Turner_table h1 rfl ?_
    walk_at "sx"
    refine x_isiD h2 rfl ?_
    walk_at "sx"
    refine x_qFld T.cl_Turner T.nf_Turner_table h1 rfl ?_
    walk_at "sx"
    refine ⟨ta, _, rfl, h2, ?_⟩
    walk_at "sx"
    refine ⟨d, _, rfl, hd, ?_⟩
    walk_at "sx"
    rw [if_neg (by simp)]
    have ntd : t ≠ d := fun e => by rw [e, hd] at h1; cases h1
    walk_at "sx"
    refine x_lockD hd fun od => ?_
    have h1' : (upd H d (.frz od (.dK (tabK es)))) t = _ := (upd_ne ntd).trans h1
    have rd1 := Rd.lock (od := od) hd h2
    have rd2 := Rd.lock (od := od) hd hd
    walk_at "sx"
    refine x_iKeys ?_
    walk_at "sx"
    refine x_qKeys upd_same ?_
    refine for_K (fun _ _ σ H2 => ∃ o7 : Option V, σ = [some (.ref t), some (S lt), some (S im), some (.int (n : Nat)), some (.ref d), some (.ref q), some (.ref m), o7, none, none, none, none] ∧ H2 = upd H d (.frz od (.dK (tabK es)))) ⟨_, rfl, rfl⟩ (fun _ _ _ _ ⟨_, _, e⟩ => by rw [e]; exact upd_same) ?_ ?_
    · rintro p1 a r σ H2 el ⟨o7, rfl, rfl⟩
      obtain ⟨v, s, e1, e2⟩ := mem_tabK (es := es) (a := a) (by rw [el]; simp)
      have ek : kV a.1 = S v := by rw [e1]; rfl
      rw [ek]
      have tl := tabK_look es v
      rw [e2] at tl
      walk_at "sx"
      refine x_qFld T.cl_Turner T.nf_Turner_table h1' rfl ?_
      walk_at "sx"
      refine x_rDNotIn rd1 ?_
      rw [tl]
      refine ⟨false, rfl, ?_⟩
      rw [if_neg (by decide)]
      walk_at "sx"
      refine x_qFld T.cl_Turner T.nf_Turner_table h1' rfl ?_
      walk_at "sx"
      refine x_rDGet rd1 tl ?_
      walk_at "sx"
      refine x_rDGet rd2 tl ?_
      walk_at "sx"
      rw [if_neg (by simp)]
      walk_at "sx"
      exact ⟨_, rfl, rfl⟩
    · rintro σ H2 ⟨o7, rfl, rfl⟩
      refine ⟨upd_same, ?_⟩
      rw [upd_back hd]
      walk_at "sx"
      refine forA_L (K := K) (l := as) (enc := fun z => V.ref z.1) (fun _ _ σ H2 => ∃ o7 o8 : Option V, σ = [some (.ref t), some (S lt), some (S im), some (.int (n : Nat)), some (.ref d), some (.ref q), some (.ref m), o7, o8, none, none, none] ∧ Ex H H2) ⟨_, _, rfl, Ex.refl H⟩ (fun _ _ _ _ ⟨_, _, _, e⟩ => .inl (.inl (e _ _ hq2))) ?_ ?_
      · rintro u z r σ H2 el ⟨o7, o8, rfl, e2⟩
        have hzm : z.2 ∈ as.map fun z => z.2 := by rw [el]; simp
        have z1 : H2 z.1 = some (.tup [S z.2.1, S z.2.2]) := e2 _ _ (hra z (by rw [el]; simp))
        obtain ⟨zl1, zl2⟩ := hz.2 z.2 hzm
        obtain ⟨zb, zle⟩ := hp z.2 hzm
        have him2 : image es n z.2.1 = some z.2.2 := by
          rw [hes] at hf ⊢
          exact image_pair hzm zle hf
        walk_at "sx"
        refine ⟨t, A.c_Turner, dx, _, sp_Turner___call__ A, rfl, e2 _ _ h1, ⟨A.a_Turner___call__, A.fd_Turner___call__, _, 4, by decide, ⟨T.m_Turner___call__.at_, T.m_Turner___call__.fn, T.fi_Turner___call__⟩, (show FnOk _ _ K _ _ _ _ A.a_Turner___call__ A.fd_Turner___call__ _ _ from ok_Turner___call__ T), T.b_Turner___call__⟩, ?_⟩
        walk_at "sx"
        refine ⟨e2 _ _ h1, t, lt, im, z.2.1, n, es, rfl, ht.ex e2, by omega, by omega, by omega, zb, fun H3 e3 => ?_⟩
        have z13 := e3 _ _ z1
        rw [him2]
        show (tOp _ _ _) _ _ _
        walk_at "sx"
        rw [show tellI (some z.2.2) = S z.2.2 from rfl]
        walk_at "sx"
        rw [if_neg (by simp)]
        walk_at "sx"
        exact ⟨_, _, rfl, e2.trans e3⟩
      · rintro σ H2 ⟨o7, o8, rfl, e2⟩
        have hm2 := e2 _ _ hm
        walk_at "sx"
        refine forA_L (K := K) (l := U) (enc := S) (fun _ _ σ H2 => ∃ o7 o8 o9 o10 o11 : Option V, σ = [some (.ref t), some (S lt), some (S im), some (.int (n : Nat)), some (.ref d), some (.ref q), some (.ref m), o7, o8, o9, o10, o11] ∧ Ex H H2) ⟨_, _, _, _, _, rfl, e2⟩ (fun _ _ _ _ ⟨_, _, _, _, _, _, e⟩ => .inl (.inl (e _ _ hm))) ?_ ?_
        · rintro u1 u r σ H3 el ⟨o7, o8, o9, o10, o11, rfl, e3⟩
          obtain ⟨ul, ub⟩ := hmu u (by rw [el]; simp)
          walk_at "sx"
          refine ⟨d, u, n, es, rfl, e3 _ _ hd, by omega, by omega, ?_⟩
          walk_at "sx"
          refine ⟨t, A.c_Turner, dx, _, sp_Turner___call__ A, rfl, e3 _ _ h1, ⟨A.a_Turner___call__, A.fd_Turner___call__, _, 4, by decide, ⟨T.m_Turner___call__.at_, T.m_Turner___call__.fn, T.fi_Turner___call__⟩, (show FnOk _ _ K _ _ _ _ A.a_Turner___call__ A.fd_Turner___call__ _ _ from ok_Turner___call__ T), T.b_Turner___call__⟩, ?_⟩
          walk_at "sx"
          refine ⟨e3 _ _ h1, t, lt, im, u, n, es, rfl, ht.ex e3, by omega, by omega, by omega, ub, fun H4 e4 => ?_⟩
          cases image es n u with
          | none =>
            rw [show tellI none = V.non from rfl]
            walk_at "sx"
            rw [if_pos (by simp)]
            walk_at "sx"
            rw [if_neg (by simp)]
            walk_at "sx"
            rw [if_neg (by simp)]
            walk_at "sx"
            exact ⟨_, _, _, _, _, rfl, e3.trans e4⟩
          | some l =>
            rw [show tellI (some l) = S l from rfl]
            walk_at "sx"
            rw [if_neg (by simp)]
            walk_at "sx"
            rw [if_pos (by simp)]
            walk_at "sx"
            rw [if_neg (by simp)]
            walk_at "sx"
            exact ⟨_, _, _, _, _, rfl, e3.trans e4⟩
        · rintro σ H3 ⟨o7, o8, o9, o10, o11, rfl, e3⟩
          have qq := k H3 e3
          walk_at "sx"
          exact qq

end TY

namespace TY
open PySem PyProof.Rows PySem.Spec L2 L2H
local macro_rules | `(tactic| walk_at "tylit") => `(tactic| first | exact lit_0 | exact lit_1 | exact lit_2 | exact lit_3 | exact lit_4 | exact lit_5 | exact lit_6 | exact lit_7 | exact lit_8 | exact lit_9 | exact lit_10 | exact lit_11 | exact lit_12 | exact lit_13 | exact lit_14 | exact lit_15 | exact lit_16 | exact lit_17 | exact lit_18 | exact lit_19 | exact lit_20 | exact lit_21 | exact lit_22)
/-! the word: one step; all steps -/
local macro_rules | `(tactic| walk_at "tysq") => `(tactic| first | assumption | exact Or.inl (Or.inl (by assumption)) | exact Or.inl (Or.inl upd_same))
local macro_rules | `(tactic| walk_at "tysqT") => `(tactic| first | assumption | exact Or.inl (Or.inl (by assumption)) | exact Or.inl (Or.inl upd_same))
local macro_rules | `(tactic| walk_at "tyhp") => `(tactic| first | assumption | exact upd_same)
local macro_rules | `(tactic| walk_at "tyc") => `(tactic| first | decide | assumption | omega | (simp only [List.length_map, List.length_append, List.length_cons, List.length_nil]; omega) | exact Or.inl ⟨by omega, by omega⟩ | exact ⟨by omega, by omega⟩ | exact ⟨by decide, by decide⟩)
local macro_rules | `(tactic| walk_at "sx1") => `(tactic| first
  | with_reducible refine x_seq ?_ | with_reducible refine x_next ?_ | with_reducible refine x_Dnx ?_ | with_reducible refine x_Drt ?_
  | with_reducible refine x_asg ?_ | ((with_reducible refine x_gname ?_); try dsimp only [List.set_cons_zero, List.set_cons_succ]) | with_reducible refine x_drop ?_ | with_reducible refine x_ret ?_
  | with_reducible refine x_ifS ?_ | with_reducible refine x_ifE ?_ | ((with_reducible apply x_var); (first | rfl | assumption)) | ((with_reducible apply x_cStr); with_reducible walk_at "tylit") | with_reducible refine x_c ?_
  | with_reducible refine l_addS ?_ | with_reducible refine l_inSign ?_ | with_reducible refine l_niSign ?_ | with_reducible refine l_repS ?_ | with_reducible refine x_then ?_ | with_reducible refine x_iTup ?_ | ((with_reducible apply x_gTup); (walk_at "tysqT"); rfl) | with_reducible refine x_gC ?_ | with_reducible refine x_gN ?_ | with_reducible refine x_nget ?_ | with_reducible refine x_nin ?_ | with_reducible refine x_nput ?_ | with_reducible refine x_nget2 ?_ | with_reducible refine x_inO ?_ | with_reducible refine x_callOA ?_ | with_reducible refine x_setd ?_ | with_reducible refine l_dictD ?_ | with_reducible refine x_din ?_ | with_reducible refine x_dnotin ?_ | with_reducible refine l_repA ?_ | with_reducible refine l_leS ?_ | with_reducible refine l_isN ?_ | with_reducible refine l_notN ?_
  | with_reducible refine x_op ?_ | with_reducible refine x_un ?_ | with_reducible refine x_I0 ?_ | ((with_reducible apply x_I); walk_at "tyc") | with_reducible refine x_U ?_
  | with_reducible refine x_eqI ?_ | with_reducible refine x_neI ?_ | with_reducible refine x_eqOne ?_ | with_reducible refine x_eqSt ?_ | with_reducible refine x_neSt ?_ | with_reducible refine x_eqS ?_ | with_reducible refine x_neS ?_
  | with_reducible refine x_test ?_ | with_reducible refine x_tB ?_ | with_reducible refine x_bl ?_ | with_reducible refine x_bl2 ?_
  | with_reducible refine x_yes ?_ | with_reducible refine x_and ?_ | with_reducible refine x_or ?_ | with_reducible refine x_not ?_ | with_reducible refine x_andV ?_ | with_reducible refine x_orV ?_ | with_reducible refine x_notV ?_
  | with_reducible refine x_nil ?_ | with_reducible refine x_cons ?_ | with_reducible refine l_len ?_ | with_reducible refine l_lenS ?_ | with_reducible refine l_int1 ?_ | with_reducible refine l_abs ?_ | with_reducible refine l_max2 ?_ | with_reducible refine l_min2 ?_ | with_reducible refine l_list ?_ | with_reducible refine l_listD ?_ | with_reducible refine l_strI ?_ | with_reducible refine x_cb ?_ | with_reducible refine x_call ?_ | with_reducible refine x_callS ?_ | with_reducible refine x_callE ?_
  | ((with_reducible apply x_aug); (first | rfl | assumption)) | with_reducible refine x_ipI ?_ | with_reducible refine x_sl ?_ | with_reducible refine x_nopart ?_ | with_reducible refine x_part ?_ | with_reducible refine x_int ?_
  | with_reducible refine x_gsub ?_ | with_reducible refine x_bm ?_ | with_reducible refine x_bm0 ?_ | with_reducible refine l_upper ?_ | with_reducible refine l_join ?_ | with_reducible refine l_index ?_ | with_reducible refine x_m0 ?_ | with_reducible refine x_m1 ?_ | with_reducible refine x_strA ?_ | with_reducible refine x_augS ?_
  | ((with_reducible apply x_tyL); walk_at "tysq")
  | ((with_reducible apply x_addS); walk_at "tyc") | with_reducible refine x_inSign ?_ | with_reducible refine x_niSign ?_ | with_reducible refine x_leS ?_ | with_reducible refine x_isN ?_ | with_reducible refine x_notN ?_ | with_reducible refine x_max2 ?_ | with_reducible refine x_min2 ?_
  | ((with_reducible apply x_lenS); walk_at "tyc") | ((with_reducible apply x_lenL); walk_at "tysq")
  | with_reducible refine x_int1 ?_ | with_reducible refine x_abs ?_
  | ((with_reducible apply x_ixL); walk_at "tysq"; rfl) | ((with_reducible apply x_setL); walk_at "tyhp"; rfl)
  | with_reducible refine x_lc ?_ | with_reducible refine x_for ?_ | with_reducible refine x_iStr ?_ | with_reducible refine x_qStr ?_ | with_reducible refine x_iLst ?_ | ((with_reducible apply x_qLst); walk_at "tysq")
  | with_reducible refine x_iRng1 ?_ | with_reducible refine x_iRng2 ?_ | ((with_reducible apply x_qRng1); walk_at "tyc") | ((with_reducible apply x_qRng2); walk_at "tyc") | with_reducible refine x_iEnS ?_ | with_reducible refine x_qEnS ?_
  | ((with_reducible apply x_slS); walk_at "tyc")
  | with_reducible refine x_lst ?_ | with_reducible refine x_tup ?_
  | with_reducible refine x_listZip ?_ | with_reducible refine x_iRev ?_ | ((with_reducible apply x_qRev); walk_at "tysq") | with_reducible refine x_dget ?_ | with_reducible refine x_dput ?_ | with_reducible refine x_tern ?_ | with_reducible refine x_replA ?_ | with_reducible refine x_replC ?_ | with_reducible refine x_sl3 ?_ | with_reducible refine x_iEnL ?_ | with_reducible refine x_lc2 ?_ | with_reducible refine x_ckw ?_ | with_reducible refine x_eqB ?_ | with_reducible refine x_fld ?_ | with_reducible refine x_sfld ?_ | with_reducible refine x_makeS ?_ | with_reducible refine x_methA ?_ | with_reducible refine x_fmt ?_ | with_reducible refine x_js0 ?_ | with_reducible refine x_js ?_ | ((with_reducible apply x_qJs); walk_at "tyc") | with_reducible refine x_jsE ?_ | with_reducible refine x_mkO ?_ | ((with_reducible apply x_ixT); walk_at "tysqT"; rfl)
  | with_reducible refine x_iteT ?_ | with_reducible refine x_iteF ?_ | with_reducible refine x_iteNT' ?_ | with_reducible refine x_iteNF' ?_)
local macro_rules | `(tactic| walk_at "sx") => `(tactic| repeat walk_at "sx1")
local macro_rules | `(tactic| walk_at "sxi") => `(tactic| repeat (first
  | with_reducible refine x_seq ?_ | with_reducible refine x_next ?_ | with_reducible refine x_Dnx ?_ | with_reducible refine x_Drt ?_ | with_reducible refine x_asg ?_ | ((with_reducible refine x_gname ?_); try dsimp only [List.set_cons_zero, List.set_cons_succ]) | with_reducible refine x_drop ?_ | with_reducible refine x_ifS ?_))
local macro_rules | `(tactic| walk_at "sxn") => `(tactic| repeat (first
  | with_reducible refine x_next ?_ | with_reducible refine x_Dnx ?_ | with_reducible refine x_Drt ?_ | with_reducible refine x_asg ?_ | ((with_reducible refine x_gname ?_); try dsimp only [List.set_cons_zero, List.set_cons_succ]) | with_reducible refine x_drop ?_))
/-! an image drawn -/
def Ex2 (p d : Addr) (H H' : Hp) : Prop := ∀ a o, a ≠ p → a ≠ d → H a = some o → H' a = some o
theorem Ex2.refl (p d : Addr) (H : Hp) : Ex2 p d H H := fun _ _ _ _ h => h
theorem Ex2.trans {p d : Addr} {H H1 H2 : Hp} (a : Ex2 p d H H1) (b : Ex2 p d H1 H2) : Ex2 p d H H2 := fun x o n1 n2 h => b x o n1 n2 (a x o n1 n2 h)
theorem Ex2.ofB {p d : Addr} {H H1 : Hp} (a : ExB p H H1) : Ex2 p d H H1 := fun x o n1 _ h => a x o n1 h
theorem Ex2.ofEx {p d : Addr} {H H1 : Hp} (a : Ex H H1) : Ex2 p d H H1 := fun x o _ _ h => a x o h
theorem Ex2.ofPut {p d : Addr} {H H1 : Hp} (a : ∀ b, b ≠ d → H1 b = H b) : Ex2 p d H H1 := fun x o _ n2 h => by rw [a x n2]; exact h
theorem StOk.same {H H' : Hp} {p c d : Addr} {kvs : List (Key × V)} (s : StOk H p c) (hd : H d = some (.dK kvs)) (k : ∀ b, b ≠ d → H' b = H b) : StOk H' p c := by
  obtain ⟨n, ⟨a, b, e, h⟩, cells, h3, h4, h5⟩ := s
  have n1 : p ≠ d := fun z => by rw [z, hd] at h; cases h
  have n2 : c ≠ d := fun z => by rw [z, hd] at h5; cases h5
  exact ⟨n, ⟨a, b, e, by rw [k p n1]; exact h⟩, cells, h3, h4, by rw [k c n2]; exact h5⟩
def Kn (im : List Nat) (kvs : List (Key × V)) : Prop := ∀ (v : List Nat) (z : V), valV kvs (.inr (st v)) = some z → ∃ x ∈ im, z = S [x]
theorem Kn.put {im : List Nat} {kvs : List (Key × V)} {v : List Nat} {x : Nat} (h : Kn im kvs) (hx : x ∈ im) : Kn im (putK kvs (.inr (st v)) (S [x])) := fun u z hz => by
  rw [valV_put] at hz
  by_cases e : (Sum.inr (st u) : Key) = .inr (st v)
  · rw [if_pos e] at hz
    exact ⟨x, hx, (Option.some.inj hz).symm⟩
  · rw [if_neg e] at hz
    exact h u z hz
def sp__law_image : Sp := fun vs H Q _ => ∃ (p c kd : Addr) (u im : List Nat) (n : Nat) (kvs : List (Key × V)), vs = [.ref p, .ref kd, S u, S im, .int (n : Nat)] ∧ StOk H p c ∧ H kd = some (.dK kvs) ∧ Kn im kvs ∧ kvs.length + u.length ≤ 100000 ∧ im ≠ [] ∧ im.length ≤ 100 ∧ u.length ≤ 1000 ∧ n ≤ 1000 ∧
  ∀ (l : List Nat) (kvs' : List (Key × V)) (H' : Hp), l.length = u.length → (∀ x ∈ l, x ∈ im) → Kn im kvs' → kvs'.length ≤ kvs.length + u.length → H' kd = some (.dK kvs') → StOk H' p c → Ex2 p kd H H' → Q (S l) H'
theorem ok__law_image {P : Program} {w : World} {K : PySem.W.Frag} {mg : Str → Option Value} {base : Heap} {A : Ad} (T : Txt P K mg A) : FnOk P w K mg base CX0 2 A.a__law_image A.fd__law_image ["state", "known", "word", "images", "size"] sp__law_image := by
  refine T.F__law_image.ok sc__law_image (fun vs H Q E h => ?_) (fun cdv A' outer s H vs Q E hr h => ?_)
  · obtain ⟨p, c, kd, u, im, n, kvs, rfl, _⟩ := h
    rfl
  · obtain ⟨p, c, kd, u, im, n, kvs, rfl, st0, hd, hkn, hz, hi0, hi1, hu1, hn, k⟩ := h
    have hu := hu_of hr
    refine ⟨_, (pss_cons (ps_set (i := 5) sc__law_image.nd rfl (Or.inl rfl) pe_str)
    (pss_cons (ps_for PassesOwn.never rfl (pi_range1 (by rfl) T.n_range (pa_cons (pe_callB call_len_str (by rfl) T.n_len bt_len (pa_cons (pv 2) pa_nil)) pa_nil)) (pg_name (i := 6) sc__law_image.nd rfl (Or.inl rfl))
    (pss_cons (ps_set (i := 7) sc__law_image.nd rfl (Or.inl rfl) (pe_call (ok__law_view (w := w) T) (hr.mono (by decide)) rfl T.g__law_view T.F__law_view.kp T.b__law_view .nil pass0 (pa_cons (pv 2) (pa_cons (pv 6) (pa_cons (pv 4) pa_nil)))))
    (pss_cons (ps_if (pt_cmp (pc_dnotin hu (pv 7) (pv 1)))
    (pss_one (ps_dput hu (pv 1) (pv 7) (pe_ix ix_str (pv 3) (pe_call (ok__law_next (w := w) T) (hr.mono (by decide)) rfl T.g__law_next T.F__law_next.kp T.b__law_next .nil pass0 (pa_cons (pv 0) (pa_cons (pe_callB call_len_str (by rfl) T.n_len bt_len (pa_cons (pv 3) pa_nil)) pa_nil))) (fun _ _ => rfl)) rfl))
    pss_nil)
    (pss_one (ps_set (i := 5) sc__law_image.nd rfl (Or.inl rfl) (pe_op op_add_str (pv 5) (pe_dget hu (pv 1) (pv 7) (fun _ _ => rfl))))))))
    (pss_one (ps_ret (pv 5))))),
      ?_⟩
    refine x_start (σ := [some (.ref p), some (.ref kd), some (S u), some (S im), some (.int (n : Nat)), none, none, none]) rfl ?_
    have h1 : 1 ≤ im.length := List.length_pos_iff.mpr hi0
    walk_at "sx"
    rw [Int.toNat_natCast]
    refine for_R (fun i σ H1 => ∃ (l : List Nat) (o6 o7 : Option V) (kvs' : List (Key × V)), σ = [some (.ref p), some (.ref kd), some (S u), some (S im), some (.int (n : Nat)), some (S l), o6, o7] ∧ l.length = i ∧ (∀ x ∈ l, x ∈ im) ∧ Kn im kvs' ∧ kvs'.length ≤ kvs.length + i ∧ H1 kd = some (.dK kvs') ∧ StOk H1 p c ∧ Ex2 p kd H H1) ⟨[], _, _, kvs, rfl, rfl, (fun x h => nomatch h), hkn, by omega, hd, st0, Ex2.refl _ _ _⟩ ?_ ?_
    · rintro i σ H1 hil ⟨l, o6, o7, kvs', rfl, hll, hlm, hkn', hkl, hd1, st1, e1⟩
      walk_at "sx"
      rw [Int.zero_add]
      refine ⟨u, i, n, rfl, by omega, by omega, by omega, ?_⟩
      walk_at "sx"
      refine x_qDNotIn hd1 ?_
      cases hv : valV kvs' (.inr (st (view u i n))) with
      | none =>
        refine ⟨true, rfl, ?_⟩
        rw [if_pos rfl]
        walk_at "sx"
        refine ⟨p, c, _, rfl, st1, by omega, by omega, fun v H2 v0 v1 st2 e2 => ?_⟩
        obtain ⟨j, rfl⟩ : ∃ j : Nat, v = (j : Int) := ⟨v.toNat, by omega⟩
        have hj : j < im.length := by omega
        have npk : kd ≠ p := fun z => by
          obtain ⟨_, ⟨a, b, e, h⟩, _⟩ := st1
          rw [← z, hd1] at h
          cases h
        have hd2 := e2 _ _ npk hd1
        refine x_ixS (by omega) (atI_nat (List.getElem?_eq_getElem hj)) ?_
        walk_at "sx"
        refine x_qDPutS hd2 (by omega) fun H3 h3 k3 => ?_
        have hlp := length_putK kvs' (.inr (st (view u i n))) (S [im[j]])
        walk_at "sx"
        refine x_qDGetS h3 (by rw [valV_put, if_pos rfl]) ?_
        refine x_addS ?_ ?_
        · rw [List.length_singleton]
          omega
        walk_at "sx"
        refine ⟨l ++ [im[j]], _, _, _, rfl, by rw [List.length_append, hll]; rfl, fun x hx => ?_, hkn'.put (List.getElem_mem hj), by omega, h3, st2.same hd2 k3, (e1.trans (Ex2.ofB e2)).trans (Ex2.ofPut k3)⟩
        rcases List.mem_append.mp hx with m | m
        · exact hlm x m
        · rw [List.mem_singleton.mp m]
          exact List.getElem_mem hj
      | some z =>
        obtain ⟨x0, hx0, rfl⟩ := hkn' _ _ hv
        refine ⟨false, rfl, ?_⟩
        rw [if_neg (by decide)]
        walk_at "sx"
        refine x_qDGetS hd1 hv ?_
        refine x_addS ?_ ?_
        · rw [List.length_singleton]
          omega
        walk_at "sx"
        refine ⟨l ++ [x0], _, _, kvs', rfl, by rw [List.length_append, hll]; rfl, fun x hx => ?_, hkn', by omega, hd1, st1, e1⟩
        rcases List.mem_append.mp hx with m | m
        · exact hlm x m
        · rw [List.mem_singleton.mp m]
          exact hx0
    · rintro σ H1 ⟨l, o6, o7, kvs', rfl, hll, hlm, hkn', hkl, hd1, st1, e1⟩
      walk_at "sx"
      exact k l kvs' H1 hll hlm hkn' hkl hd1 st1 e1

end TY

namespace TY
open PySem PyProof.Rows PySem.Spec L2 L2H
local macro_rules | `(tactic| walk_at "tylit") => `(tactic| first | exact lit_0 | exact lit_1 | exact lit_2 | exact lit_3 | exact lit_4 | exact lit_5 | exact lit_6 | exact lit_7 | exact lit_8 | exact lit_9 | exact lit_10 | exact lit_11 | exact lit_12 | exact lit_13 | exact lit_14 | exact lit_15 | exact lit_16 | exact lit_17 | exact lit_18 | exact lit_19 | exact lit_20 | exact lit_21 | exact lit_22)
/-! the word: one step; all steps -/
local macro_rules | `(tactic| walk_at "tysq") => `(tactic| first | assumption | exact Or.inl (Or.inl (by assumption)) | exact Or.inl (Or.inl upd_same))
local macro_rules | `(tactic| walk_at "tysqT") => `(tactic| first | assumption | exact Or.inl (Or.inl (by assumption)) | exact Or.inl (Or.inl upd_same))
local macro_rules | `(tactic| walk_at "tyhp") => `(tactic| first | assumption | exact upd_same)
local macro_rules | `(tactic| walk_at "tyc") => `(tactic| first | decide | assumption | omega | (simp only [List.length_map, List.length_append, List.length_cons, List.length_nil]; omega) | exact Or.inl ⟨by omega, by omega⟩ | exact ⟨by omega, by omega⟩ | exact ⟨by decide, by decide⟩)
local macro_rules | `(tactic| walk_at "sx1") => `(tactic| first
  | with_reducible refine x_seq ?_ | with_reducible refine x_next ?_ | with_reducible refine x_Dnx ?_ | with_reducible refine x_Drt ?_
  | with_reducible refine x_asg ?_ | ((with_reducible refine x_gname ?_); try dsimp only [List.set_cons_zero, List.set_cons_succ]) | with_reducible refine x_drop ?_ | with_reducible refine x_ret ?_
  | with_reducible refine x_ifS ?_ | with_reducible refine x_ifE ?_ | ((with_reducible apply x_var); (first | rfl | assumption)) | ((with_reducible apply x_cStr); with_reducible walk_at "tylit") | with_reducible refine x_c ?_
  | with_reducible refine l_addS ?_ | with_reducible refine l_inSign ?_ | with_reducible refine l_niSign ?_ | with_reducible refine l_repS ?_ | with_reducible refine x_then ?_ | with_reducible refine x_iTup ?_ | ((with_reducible apply x_gTup); (walk_at "tysqT"); rfl) | with_reducible refine x_gC ?_ | with_reducible refine x_gN ?_ | with_reducible refine x_nget ?_ | with_reducible refine x_nin ?_ | with_reducible refine x_nput ?_ | with_reducible refine x_nget2 ?_ | with_reducible refine x_inO ?_ | with_reducible refine x_callOA ?_ | with_reducible refine x_setd ?_ | with_reducible refine l_dictD ?_ | with_reducible refine x_din ?_ | with_reducible refine x_dnotin ?_ | with_reducible refine l_repA ?_ | with_reducible refine l_leS ?_ | with_reducible refine l_isN ?_ | with_reducible refine l_notN ?_
  | with_reducible refine x_op ?_ | with_reducible refine x_un ?_ | with_reducible refine x_I0 ?_ | ((with_reducible apply x_I); walk_at "tyc") | with_reducible refine x_U ?_
  | with_reducible refine x_eqI ?_ | with_reducible refine x_neI ?_ | with_reducible refine x_eqOne ?_ | with_reducible refine x_eqSt ?_ | with_reducible refine x_neSt ?_ | with_reducible refine x_eqS ?_ | with_reducible refine x_neS ?_
  | with_reducible refine x_test ?_ | with_reducible refine x_tB ?_ | with_reducible refine x_bl ?_ | with_reducible refine x_bl2 ?_
  | with_reducible refine x_yes ?_ | with_reducible refine x_and ?_ | with_reducible refine x_or ?_ | with_reducible refine x_not ?_ | with_reducible refine x_andV ?_ | with_reducible refine x_orV ?_ | with_reducible refine x_notV ?_
  | with_reducible refine x_nil ?_ | with_reducible refine x_cons ?_ | with_reducible refine l_len ?_ | with_reducible refine l_lenS ?_ | with_reducible refine l_int1 ?_ | with_reducible refine l_abs ?_ | with_reducible refine l_max2 ?_ | with_reducible refine l_min2 ?_ | with_reducible refine l_list ?_ | with_reducible refine l_listD ?_ | with_reducible refine l_strI ?_ | with_reducible refine x_cb ?_ | with_reducible refine x_call ?_ | with_reducible refine x_callS ?_ | with_reducible refine x_callE ?_
  | ((with_reducible apply x_aug); (first | rfl | assumption)) | with_reducible refine x_ipI ?_ | with_reducible refine x_sl ?_ | with_reducible refine x_nopart ?_ | with_reducible refine x_part ?_ | with_reducible refine x_int ?_
  | with_reducible refine x_gsub ?_ | with_reducible refine x_bm ?_ | with_reducible refine x_bm0 ?_ | with_reducible refine l_upper ?_ | with_reducible refine l_join ?_ | with_reducible refine l_index ?_ | with_reducible refine x_m0 ?_ | with_reducible refine x_m1 ?_ | with_reducible refine x_strA ?_ | with_reducible refine x_augS ?_
  | ((with_reducible apply x_tyL); walk_at "tysq")
  | ((with_reducible apply x_addS); walk_at "tyc") | with_reducible refine x_inSign ?_ | with_reducible refine x_niSign ?_ | with_reducible refine x_leS ?_ | with_reducible refine x_isN ?_ | with_reducible refine x_notN ?_ | with_reducible refine x_max2 ?_ | with_reducible refine x_min2 ?_
  | ((with_reducible apply x_lenS); walk_at "tyc") | ((with_reducible apply x_lenL); walk_at "tysq")
  | with_reducible refine x_int1 ?_ | with_reducible refine x_abs ?_
  | ((with_reducible apply x_ixL); walk_at "tysq"; rfl) | ((with_reducible apply x_setL); walk_at "tyhp"; rfl)
  | with_reducible refine x_lc ?_ | with_reducible refine x_for ?_ | with_reducible refine x_iStr ?_ | with_reducible refine x_qStr ?_ | with_reducible refine x_iLst ?_ | ((with_reducible apply x_qLst); walk_at "tysq")
  | with_reducible refine x_iRng1 ?_ | with_reducible refine x_iRng2 ?_ | ((with_reducible apply x_qRng1); walk_at "tyc") | ((with_reducible apply x_qRng2); walk_at "tyc") | with_reducible refine x_iEnS ?_ | with_reducible refine x_qEnS ?_
  | ((with_reducible apply x_slS); walk_at "tyc")
  | with_reducible refine x_lst ?_ | with_reducible refine x_tup ?_
  | with_reducible refine x_listZip ?_ | with_reducible refine x_iRev ?_ | ((with_reducible apply x_qRev); walk_at "tysq") | with_reducible refine x_dget ?_ | with_reducible refine x_dput ?_ | with_reducible refine x_tern ?_ | with_reducible refine x_replA ?_ | with_reducible refine x_replC ?_ | with_reducible refine x_sl3 ?_ | with_reducible refine x_iEnL ?_ | with_reducible refine x_lc2 ?_ | with_reducible refine x_ckw ?_ | with_reducible refine x_eqB ?_ | with_reducible refine x_fld ?_ | with_reducible refine x_sfld ?_ | with_reducible refine x_makeS ?_ | with_reducible refine x_methA ?_ | with_reducible refine x_fmt ?_ | with_reducible refine x_js0 ?_ | with_reducible refine x_js ?_ | ((with_reducible apply x_qJs); walk_at "tyc") | with_reducible refine x_jsE ?_ | with_reducible refine x_mkO ?_ | ((with_reducible apply x_ixT); walk_at "tysqT"; rfl)
  | with_reducible refine x_iteT ?_ | with_reducible refine x_iteF ?_ | with_reducible refine x_iteNT' ?_ | with_reducible refine x_iteNF' ?_)
local macro_rules | `(tactic| walk_at "sx") => `(tactic| repeat walk_at "sx1")
local macro_rules | `(tactic| walk_at "sxi") => `(tactic| repeat (first
  | with_reducible refine x_seq ?_ | with_reducible refine x_next ?_ | with_reducible refine x_Dnx ?_ | with_reducible refine x_Drt ?_ | with_reducible refine x_asg ?_ | ((with_reducible refine x_gname ?_); try dsimp only [List.set_cons_zero, List.set_cons_succ]) | with_reducible refine x_drop ?_ | with_reducible refine x_ifS ?_))
local macro_rules | `(tactic| walk_at "sxn") => `(tactic| repeat (first
  | with_reducible refine x_next ?_ | with_reducible refine x_Dnx ?_ | with_reducible refine x_Drt ?_ | with_reducible refine x_asg ?_ | ((with_reducible refine x_gname ?_); try dsimp only [List.set_cons_zero, List.set_cons_succ]) | with_reducible refine x_drop ?_))
/-! pairs spoilt -/
theorem PairsIn.ns {H : Hp} {p c q : Addr} {P : List PT} (h : PairsIn H q P) (s : StOk H p c) : q ≠ p ∧ q ≠ c := by
  obtain ⟨as, h1, h2, h3⟩ := h
  obtain ⟨n, ⟨a, b, d, h⟩, cells, h3, h4, h5⟩ := s
  constructor
  · rintro rfl
    rw [h2] at h
    cases as with
    | nil => cases h
    | cons x r =>
      cases r with
      | nil => cases h
      | cons y r => cases h
  · rintro rfl
    rw [h2] at h5
    cases cells with
    | nil => exact h3 rfl
    | cons x r =>
      cases as with
      | nil => cases h5
      | cons y r => cases h5
theorem StOk.neT {H : Hp} {p c t : Addr} {xs : List V} (s : StOk H p c) (h : H t = some (.tup xs)) : t ≠ p ∧ t ≠ c := by
  obtain ⟨n, ⟨a, b, d, h1⟩, cells, h3, h4, h5⟩ := s
  exact ⟨fun z => (by rw [z, h1] at h; cases h), fun z => (by rw [z, h5] at h; cases h)⟩
theorem PairsIn.b {H H' : Hp} {p c q : Addr} {P : List PT} (h : PairsIn H q P) (s : StOk H p c) (e : ExB p H H') : PairsIn H' q P := by
  have n := h.ns s
  obtain ⟨as, h1, h2, h3⟩ := h
  exact ⟨as, h1, e _ _ n.1 h2, fun z hz => e _ _ (s.neT (h3 z hz)).1 (h3 z hz)⟩
theorem PairsIn.neT {H : Hp} {q t : Addr} {P : List PT} {xs : List V} (h : PairsIn H q P) (ht : H t = some (.tup xs)) : t ≠ q := by
  obtain ⟨as, h1, h2, h3⟩ := h
  rintro rfl
  rw [h2] at ht
  cases ht
theorem PairsIn.set {H H' : Hp} {q t : Addr} {P : List PT} {i : Nat} {x : PT} (h : PairsIn H q P) (ht : H t = some (.tup [S x.1, S x.2])) (hs : ∀ as : List AP, as.map (fun z => z.2) = P → H q = some (.lst (prefs as)) → H' q = some (.lst ((prefs as).set i (.ref t)))) (k : ∀ b, b ≠ q → H' b = H b) : PairsIn H' q (P.set i x) := by
  have h0 := h
  obtain ⟨as, h1, h2, h3⟩ := h
  refine ⟨as.set i (t, x), ?_, ?_, fun z hz => ?_⟩
  · rw [List.map_set, h1]
  · rw [hs as h1 h2]
    show some (HO.lst _) = some (HO.lst ((as.set i (t, x)).map fun z => V.ref z.1))
    rw [List.map_set]
  · rcases List.mem_or_eq_of_mem_set hz with m | rfl
    · show H' z.1 = _
      rw [k z.1 (h0.neT (h3 z m))]
      exact h3 z m
    · show H' t = _
      rw [k t (h0.neT ht)]
      exact ht
def Lens (m : Nat) (P : List PT) : Prop := ∀ p ∈ P, p.1.length ≤ m ∧ p.2.length ≤ m ∧ ∀ x ∈ p.1 ++ p.2, x < 1000
def sp__law_spoil : Sp := fun vs H Q _ => ∃ (p c q : Addr) (lt im : List Nat) (P : List PT) (m : Nat), vs = [.ref p, .ref q, S lt, S im] ∧ StOk H p c ∧ PairsIn H q P ∧ P ≠ [] ∧ P.length ≤ 100 ∧ Lens m P ∧ m ≤ 900 ∧ im ≠ [] ∧ im.length ≤ 100 ∧ (∀ x ∈ im, x < 1000) ∧
  ∀ (a : Int) (P' : List PT) (H' : Hp), P'.length = P.length → Lens (m + 1) P' → PairsIn H' q P' → StOk H' p c → Ex2 p q H H' → Q (.int a) H'
theorem ok__law_spoil {P : Program} {w : World} {K : PySem.W.Frag} {mg : Str → Option Value} {base : Heap} {A : Ad} (T : Txt P K mg A) : FnOk P w K mg base CX0 2 A.a__law_spoil A.fd__law_spoil ["state", "pairs", "letters", "images"] sp__law_spoil := by
  refine T.F__law_spoil.ok sc__law_spoil (fun vs H Q E h => ?_) (fun cdv A' outer s H vs Q E hr h => ?_)
  · obtain ⟨p, c, q, lt, im, P0, m, rfl, _⟩ := h
    rfl
  · obtain ⟨p, c, q, lt, im, P0, m, rfl, st0, hq, hp0, hp1, hm, hm9, hi0, hi1, hic, k⟩ := h
    have hu := hu_of hr
    refine ⟨_, (pss_cons (ps_set (i := 4) sc__law_spoil.nd rfl (Or.inl rfl) (pe_call (ok__law_next (w := w) T) (hr.mono (by decide)) rfl T.g__law_next T.F__law_next.kp T.b__law_next .nil pass0 (pa_cons (pv 0) (pa_cons (pe_callB (show CallR _ _ (qLen K) from call_len_seq) (by rfl) T.n_len bt_len (pa_cons (pv 1) pa_nil)) pa_nil))))
    (pss_cons (ps_set (i := 5) sc__law_spoil.nd rfl (Or.inl rfl) (pe_ix (show IxR _ (rIxT K) from ix_tup) (pe_ix (show IxR _ (rIxL K) from ix_list) (pv 1) (pv 4) (fun _ _ => rfl)) pe_int (fun _ _ => rfl)))
    (pss_cons (ps_set (i := 6) sc__law_spoil.nd rfl (Or.inl rfl) (pe_ix (show IxR _ (rIxT K) from ix_tup) (pe_ix (show IxR _ (rIxL K) from ix_list) (pv 1) (pv 4) (fun _ _ => rfl)) pe_int (fun _ _ => rfl)))
    (pss_cons (ps_set (i := 7) sc__law_spoil.nd rfl (Or.inl rfl) (pe_call (ok__law_next (w := w) T) (hr.mono (by decide)) rfl T.g__law_next T.F__law_next.kp T.b__law_next .nil pass0 (pa_cons (pv 0) (pa_cons pe_int pa_nil))))
    (pss_cons (ps_set (i := 8) sc__law_spoil.nd rfl (Or.inl rfl) (pe_call (ok__law_next (w := w) T) (hr.mono (by decide)) rfl T.g__law_next T.F__law_next.kp T.b__law_next .nil pass0 (pa_cons (pv 0) (pa_cons (pe_op op_add (pe_callB call_len_str (by rfl) T.n_len bt_len (pa_cons (pv 5) pa_nil)) pe_int) pa_nil))))
    (pss_cons (ps_set (i := 9) sc__law_spoil.nd rfl (Or.inl rfl) (pe_ix (show IxR _ (rIxL K) from ix_list) (pe_lst (pa_cons pe_str (pa_cons pe_str (pa_cons pe_str (pa_cons pe_str pa_nil))))) (pe_call (ok__law_next (w := w) T) (hr.mono (by decide)) rfl T.g__law_next T.F__law_next.kp T.b__law_next .nil pass0 (pa_cons (pv 0) (pa_cons pe_int pa_nil))) (fun _ _ => rfl)))
    (pss_cons (ps_if (pt_cmpR op_eq (pv 7) pe_int (nomark _))
    (pss_one (ps_asg (pe_tup (pa_cons (pv 5) (pa_cons (pe_op op_add_str (pv 6) (pe_ix ix_str (pv 3) pe_int (fun _ _ => rfl))) pa_nil))) (pg_sub (pv 1) (pv 4) set_list)))
    (pss_one (ps_if (pt_cmpR op_eq (pv 7) pe_int (nomark _))
    (pss_one (ps_asg (pe_tup (pa_cons (pe_op op_add_str (pe_op op_add_str (pe_slice sl_str (pv 5) po_none (po_some (pv 8))) (pv 9)) (pe_slice sl_str (pv 5) (po_some (pv 8)) po_none)) (pa_cons (pe_op op_add_str (pv 6) (pe_ix ix_str (pv 3) pe_int (fun _ _ => rfl))) pa_nil))) (pg_sub (pv 1) (pv 4) set_list)))
    (pss_one (ps_asg (pe_tup (pa_cons (pv 5) (pa_cons (pe_op op_add_str (pe_op op_add_str (pe_slice sl_str (pv 6) po_none (po_some (pv 8))) (pv 9)) (pe_slice sl_str (pv 6) (po_some (pe_op op_add (pv 8) pe_int)) po_none)) pa_nil))) (pg_sub (pv 1) (pv 4) set_list))))))
    (pss_one (ps_ret (pv 4)))))))))),
      ?_⟩
    refine x_start (σ := [some (.ref p), some (.ref q), some (S lt), some (S im), none, none, none, none, none, none]) rfl ?_
    have hpl : 1 ≤ P0.length := List.length_pos_iff.mpr hp0
    have hil : 1 ≤ im.length := List.length_pos_iff.mpr hi0
    obtain ⟨as, has, hq2, hra⟩ := id hq
    have hal : as.length = P0.length := by rw [← has, List.length_map]
    have nq := hq.ns st0
    walk_at "sx"
    refine ⟨p, c, _, rfl, st0, by rw [List.length_map]; omega, by rw [List.length_map]; omega, fun t H1 t0 t1 st1 e1 => ?_⟩
    obtain ⟨i, rfl⟩ : ∃ i : Nat, t = (i : Int) := ⟨t.toNat, by omega⟩
    rw [List.length_map] at t1
    have hi : i < as.length := by omega
    have hz1 : as[i]? = some as[i] := List.getElem?_eq_getElem hi
    have hzm : as[i] ∈ as := List.getElem_mem hi
    generalize as[i] = z at hz1 hzm
    have hq1 := hq.b st0 e1
    have hq12 : H1 q = some (.lst (prefs as)) := e1 _ _ nq.1 hq2
    have z0 : H z.1 = some (.tup [S z.2.1, S z.2.2]) := hra z hzm
    have z1 : H1 z.1 = some (.tup [S z.2.1, S z.2.2]) := e1 _ _ (st0.neT z0).1 z0
    obtain ⟨zl1, zl2, zc⟩ := hm z.2 (by rw [← has]; exact List.mem_map.mpr ⟨z, hzm, rfl⟩)
    walk_at "sx"
    refine x_ixL (.inl (.inl hq12)) (v := .ref z.1) (atI_nat (by rw [List.getElem?_map, hz1]; rfl)) ?_
    walk_at "sx"
    refine x_ixL (.inl (.inl hq12)) (v := .ref z.1) (atI_nat (by rw [List.getElem?_map, hz1]; rfl)) ?_
    walk_at "sx"
    refine ⟨p, c, _, rfl, st1, by decide, by decide, fun t2 H2 t20 t21 st2 e2 => ?_⟩
    walk_at "sx"
    refine ⟨p, c, _, rfl, st2, by omega, by omega, fun t3 H3 t30 t31 st3 e3 => ?_⟩
    obtain ⟨wh, rfl⟩ : ∃ wh : Nat, t3 = (wh : Int) := ⟨t3.toNat, by omega⟩
    walk_at "sx"
    refine x_newLg (by simp) fun g H4 f4 e4 h4 => ?_
    walk_at "sx"
    refine ⟨p, c, _, rfl, st3.ex e4, by decide, by decide, fun t4 H5 t40 t41 st5 e5 => ?_⟩
    obtain ⟨b, rfl⟩ : ∃ b : Nat, t4 = (b : Int) := ⟨t4.toNat, by omega⟩
    have ngp : g ≠ p := fun z => by
      obtain ⟨_, ⟨_, _, _, h⟩, _⟩ := st3
      rw [← z, f4] at h
      cases h
    have hg5 := e5 _ _ ngp h4
    obtain ⟨sg, hsg, hsc⟩ : ∃ sg : Nat, ([S [63], S [65], S [32], S [48]] : List V)[b]? = some (S [sg]) ∧ sg < 1000 := by
      have hb : b < 4 := by omega
      rcases b with _ | _ | _ | _ | b
      · exact ⟨63, rfl, by decide⟩
      · exact ⟨65, rfl, by decide⟩
      · exact ⟨32, rfl, by decide⟩
      · exact ⟨48, rfl, by decide⟩
      · omega
    refine x_ixL (.inl (.inl hg5)) (atI_nat hsg) ?_
    have e15 : ExB p H1 H5 := ((e2.trans e3).trans (fun a o _ h => e4 a o h)).trans e5
    have hq5 := hq1.b st1 e15
    have hq52 : H5 q = some (.lst (prefs as)) := e15 _ _ nq.1 hq12
    have fin : ∀ (w2 i2 : List Nat) (H6 H7 : Hp) (t6 : Addr), Ex H5 H6 → H6 t6 = some (.tup [S w2, S i2]) → w2.length ≤ m + 1 → i2.length ≤ m + 1 → (∀ x ∈ w2 ++ i2, x < 1000) → H7 q = some (.lst ((prefs as).set i (.ref t6))) → (∀ b, b ≠ q → H7 b = H6 b) → Q (.int (i : Nat)) H7 := fun w2 i2 H6 H7 t6 e6 h6 l1 l2 lc h7 k7 => by
      have hq6 := hq5.ex e6
      have hq62 := e6 _ _ hq52
      have st6 := st5.ex e6
      refine k i (P0.set i (w2, i2)) H7 (by rw [List.length_set]) (fun x hx => ?_) (hq6.set h6 (fun as' _ h => ?_) k7) ?_ ?_
      · rcases List.mem_or_eq_of_mem_set hx with mm | rfl
        · have := hm x mm
          exact ⟨by omega, by omega, this.2.2⟩
        · exact ⟨l1, l2, lc⟩
      · rw [hq62] at h
        rw [h7]
        have : prefs as = prefs as' := by
          have h := Option.some.inj h
          injection h
        rw [this]
      · obtain ⟨n, ⟨a, b, e, h⟩, cells, h3, h4, h5⟩ := st6
        exact ⟨n, ⟨a, b, e, by rw [k7 p nq.1.symm]; exact h⟩, cells, h3, h4, by rw [k7 c nq.2.symm]; exact h5⟩
      · exact (Ex2.ofB ((e1.trans e15).trans (fun a o _ h => e6 a o h))).trans (Ex2.ofPut k7)
    have hat0 : ∃ c0, im[0]? = some c0 ∧ c0 < 1000 := ⟨_, List.getElem?_eq_getElem (by omega), hic _ (List.getElem_mem _)⟩
    obtain ⟨c0, hc0, hcc⟩ := hat0
    have cw : ∀ x ∈ z.2.1, x < 1000 := fun x h => zc x (List.mem_append_left _ h)
    have ci : ∀ x ∈ z.2.2, x < 1000 := fun x h => zc x (List.mem_append_right _ h)
    have cone : ∀ y : Nat, y < 1000 → ∀ x ∈ [y], x < 1000 := fun y h x hx => by rw [List.mem_singleton.mp hx]; exact h
    have ca : ∀ {u v : List Nat}, (∀ x ∈ u, x < 1000) → (∀ x ∈ v, x < 1000) → ∀ x ∈ u ++ v, x < 1000 := fun {u v} h1 h2 x h => (List.mem_append.mp h).elim (h1 x) (h2 x)
    have ct : ∀ {u : List Nat} (n : Nat), (∀ x ∈ u, x < 1000) → ∀ x ∈ u.take n, x < 1000 := fun {u} n h x hx => h x (List.mem_of_mem_take hx)
    have cd : ∀ {u : List Nat} (n : Nat), (∀ x ∈ u, x < 1000) → ∀ x ∈ u.drop n, x < 1000 := fun {u} n h x hx => h x (List.mem_of_mem_drop hx)
    have f1 : (z.2.1.take wh).length ≤ wh := by rw [List.length_take]; omega
    have f2 : (z.2.1.drop wh).length = z.2.1.length - wh := List.length_drop
    have f3 : (z.2.2.take wh).length ≤ wh := by rw [List.length_take]; omega
    have f4 : (z.2.2.drop (wh + 1)).length = z.2.2.length - (wh + 1) := List.length_drop
    have f5 : (z.2.2.take wh).length ≤ z.2.2.length := by rw [List.length_take]; omega
    have hwh : wh ≤ z.2.1.length := by omega
    walk_at "sx"
    refine x_iteD (fun c1 => ?_) (fun c1 => ?_)
    · walk_at "sx"
      refine x_ixS (by omega) (atI_nat (j := 0) hc0) ?_
      walk_at "sx"
      refine x_newTg (by simp) fun t6 H6 f6 e6 h6 => ?_
      walk_at "sx"
      refine x_setLg (e6 _ _ hq52) (ixN_nat (by rw [List.length_map]; exact hi)) fun H7 h7 k7 => ?_
      walk_at "sx"
      exact fin _ _ H6 H7 t6 e6 h6 (by omega) (by rw [List.length_append, List.length_singleton]; omega) (ca cw (ca ci (cone _ hcc))) h7 k7
    walk_at "sx"
    refine x_iteD (fun c2 => ?_) (fun c2 => ?_)
    · walk_at "sx"
      rw [cutN_take]
      refine x_addS (by rw [List.length_singleton]; omega) ?_
      walk_at "sx"
      rw [cutN_drop]
      refine x_addS (by rw [List.length_append, List.length_singleton]; omega) ?_
      walk_at "sx"
      refine x_ixS (by omega) (atI_nat (j := 0) hc0) ?_
      walk_at "sx"
      refine x_newTg (by simp) fun t6 H6 f6 e6 h6 => ?_
      walk_at "sx"
      refine x_setLg (e6 _ _ hq52) (ixN_nat (by rw [List.length_map]; exact hi)) fun H7 h7 k7 => ?_
      walk_at "sx"
      have g1 : (z.2.1.take wh).length = wh := by rw [List.length_take]; omega
      exact fin _ _ H6 H7 t6 e6 h6 (by rw [List.length_append, List.length_append, List.length_singleton]; omega) (by rw [List.length_append, List.length_singleton]; omega) (ca (ca (ca (ct _ cw) (cone _ hsc)) (cd _ cw)) (ca ci (cone _ hcc))) h7 k7
    · walk_at "sx"
      rw [cutN_take]
      refine x_addS (by rw [List.length_singleton]; omega) ?_
      walk_at "sx"
      rw [show ((wh : Int) + 1) = ((wh + 1 : Nat) : Int) by omega, cutN_drop]
      refine x_addS (by rw [List.length_append, List.length_singleton]; omega) ?_
      walk_at "sx"
      refine x_newTg (by simp) fun t6 H6 f6 e6 h6 => ?_
      walk_at "sx"
      refine x_setLg (e6 _ _ hq52) (ixN_nat (by rw [List.length_map]; exact hi)) fun H7 h7 k7 => ?_
      walk_at "sx"
      have g1 : (z.2.2.take wh).length = min wh z.2.2.length := List.length_take
      exact fin _ _ H6 H7 t6 e6 h6 (by omega) (by rw [List.length_append, List.length_append, List.length_singleton]; omega) (ca cw (ca (ca (ct _ ci) (cone _ hsc)) (cd _ ci))) h7 k7

end TY

namespace TY
open PySem PyProof.Rows PySem.Spec L2 L2H
local macro_rules | `(tactic| walk_at "tylit") => `(tactic| first | exact lit_0 | exact lit_1 | exact lit_2 | exact lit_3 | exact lit_4 | exact lit_5 | exact lit_6 | exact lit_7 | exact lit_8 | exact lit_9 | exact lit_10 | exact lit_11 | exact lit_12 | exact lit_13 | exact lit_14 | exact lit_15 | exact lit_16 | exact lit_17 | exact lit_18 | exact lit_19 | exact lit_20 | exact lit_21 | exact lit_22)
/-! the word: one step; all steps -/
local macro_rules | `(tactic| walk_at "tysq") => `(tactic| first | assumption | exact Or.inl (Or.inl (by assumption)) | exact Or.inl (Or.inl upd_same))
local macro_rules | `(tactic| walk_at "tysqT") => `(tactic| first | assumption | exact Or.inl (Or.inl (by assumption)) | exact Or.inl (Or.inl upd_same))
local macro_rules | `(tactic| walk_at "tyhp") => `(tactic| first | assumption | exact upd_same)
local macro_rules | `(tactic| walk_at "tyc") => `(tactic| first | decide | assumption | omega | (simp only [List.length_map, List.length_append, List.length_cons, List.length_nil]; omega) | exact Or.inl ⟨by omega, by omega⟩ | exact ⟨by omega, by omega⟩ | exact ⟨by decide, by decide⟩)
local macro_rules | `(tactic| walk_at "sx1") => `(tactic| first
  | with_reducible refine x_seq ?_ | with_reducible refine x_next ?_ | with_reducible refine x_Dnx ?_ | with_reducible refine x_Drt ?_
  | with_reducible refine x_asg ?_ | ((with_reducible refine x_gname ?_); try dsimp only [List.set_cons_zero, List.set_cons_succ]) | with_reducible refine x_drop ?_ | with_reducible refine x_ret ?_
  | with_reducible refine x_ifS ?_ | with_reducible refine x_ifE ?_ | ((with_reducible apply x_var); (first | rfl | assumption)) | ((with_reducible apply x_cStr); with_reducible walk_at "tylit") | with_reducible refine x_c ?_
  | with_reducible refine l_addS ?_ | with_reducible refine l_inSign ?_ | with_reducible refine l_niSign ?_ | with_reducible refine l_repS ?_ | with_reducible refine x_then ?_ | with_reducible refine x_iTup ?_ | ((with_reducible apply x_gTup); (walk_at "tysqT"); rfl) | with_reducible refine x_gC ?_ | with_reducible refine x_gN ?_ | with_reducible refine x_nget ?_ | with_reducible refine x_nin ?_ | with_reducible refine x_nput ?_ | with_reducible refine x_nget2 ?_ | with_reducible refine x_inO ?_ | with_reducible refine x_callOA ?_ | with_reducible refine x_setd ?_ | with_reducible refine l_dictD ?_ | with_reducible refine x_din ?_ | with_reducible refine x_dnotin ?_ | with_reducible refine l_repA ?_ | with_reducible refine l_leS ?_ | with_reducible refine l_isN ?_ | with_reducible refine l_notN ?_
  | with_reducible refine x_op ?_ | with_reducible refine x_un ?_ | with_reducible refine x_I0 ?_ | ((with_reducible apply x_I); walk_at "tyc") | with_reducible refine x_U ?_
  | with_reducible refine x_eqI ?_ | with_reducible refine x_neI ?_ | with_reducible refine x_eqOne ?_ | with_reducible refine x_eqSt ?_ | with_reducible refine x_neSt ?_ | with_reducible refine x_eqS ?_ | with_reducible refine x_neS ?_
  | with_reducible refine x_test ?_ | with_reducible refine x_tB ?_ | with_reducible refine x_bl ?_ | with_reducible refine x_bl2 ?_
  | with_reducible refine x_yes ?_ | with_reducible refine x_and ?_ | with_reducible refine x_or ?_ | with_reducible refine x_not ?_ | with_reducible refine x_andV ?_ | with_reducible refine x_orV ?_ | with_reducible refine x_notV ?_
  | with_reducible refine x_nil ?_ | with_reducible refine x_cons ?_ | with_reducible refine l_len ?_ | with_reducible refine l_lenS ?_ | with_reducible refine l_int1 ?_ | with_reducible refine l_abs ?_ | with_reducible refine l_max2 ?_ | with_reducible refine l_min2 ?_ | with_reducible refine l_list ?_ | with_reducible refine l_listD ?_ | with_reducible refine l_strI ?_ | with_reducible refine x_cb ?_ | with_reducible refine x_call ?_ | with_reducible refine x_callS ?_ | with_reducible refine x_callE ?_
  | ((with_reducible apply x_aug); (first | rfl | assumption)) | with_reducible refine x_ipI ?_ | with_reducible refine x_sl ?_ | with_reducible refine x_nopart ?_ | with_reducible refine x_part ?_ | with_reducible refine x_int ?_
  | with_reducible refine x_gsub ?_ | with_reducible refine x_bm ?_ | with_reducible refine x_bm0 ?_ | with_reducible refine l_upper ?_ | with_reducible refine l_join ?_ | with_reducible refine l_index ?_ | with_reducible refine x_m0 ?_ | with_reducible refine x_m1 ?_ | with_reducible refine x_strA ?_ | with_reducible refine x_augS ?_
  | ((with_reducible apply x_tyL); walk_at "tysq")
  | ((with_reducible apply x_addS); walk_at "tyc") | with_reducible refine x_inSign ?_ | with_reducible refine x_niSign ?_ | with_reducible refine x_leS ?_ | with_reducible refine x_isN ?_ | with_reducible refine x_notN ?_ | with_reducible refine x_max2 ?_ | with_reducible refine x_min2 ?_
  | ((with_reducible apply x_lenS); walk_at "tyc") | ((with_reducible apply x_lenL); walk_at "tysq")
  | with_reducible refine x_int1 ?_ | with_reducible refine x_abs ?_
  | ((with_reducible apply x_ixL); walk_at "tysq"; rfl) | ((with_reducible apply x_setL); walk_at "tyhp"; rfl)
  | with_reducible refine x_lc ?_ | with_reducible refine x_for ?_ | with_reducible refine x_iStr ?_ | with_reducible refine x_qStr ?_ | with_reducible refine x_iLst ?_ | ((with_reducible apply x_qLst); walk_at "tysq")
  | with_reducible refine x_iRng1 ?_ | with_reducible refine x_iRng2 ?_ | ((with_reducible apply x_qRng1); walk_at "tyc") | ((with_reducible apply x_qRng2); walk_at "tyc") | with_reducible refine x_iEnS ?_ | with_reducible refine x_qEnS ?_
  | ((with_reducible apply x_slS); walk_at "tyc")
  | with_reducible refine x_lst ?_ | with_reducible refine x_tup ?_
  | with_reducible refine x_listZip ?_ | with_reducible refine x_iRev ?_ | ((with_reducible apply x_qRev); walk_at "tysq") | with_reducible refine x_dget ?_ | with_reducible refine x_dput ?_ | with_reducible refine x_tern ?_ | with_reducible refine x_replA ?_ | with_reducible refine x_replC ?_ | with_reducible refine x_sl3 ?_ | with_reducible refine x_iEnL ?_ | with_reducible refine x_lc2 ?_ | with_reducible refine x_ckw ?_ | with_reducible refine x_eqB ?_ | with_reducible refine x_fld ?_ | with_reducible refine x_sfld ?_ | with_reducible refine x_makeS ?_ | with_reducible refine x_methA ?_ | with_reducible refine x_fmt ?_ | with_reducible refine x_js0 ?_ | with_reducible refine x_js ?_ | ((with_reducible apply x_qJs); walk_at "tyc") | with_reducible refine x_jsE ?_ | with_reducible refine x_mkO ?_ | ((with_reducible apply x_ixT); walk_at "tysqT"; rfl)
  | with_reducible refine x_iteT ?_ | with_reducible refine x_iteF ?_ | with_reducible refine x_iteNT' ?_ | with_reducible refine x_iteNF' ?_)
local macro_rules | `(tactic| walk_at "sx") => `(tactic| repeat walk_at "sx1")
local macro_rules | `(tactic| walk_at "sxi") => `(tactic| repeat (first
  | with_reducible refine x_seq ?_ | with_reducible refine x_next ?_ | with_reducible refine x_Dnx ?_ | with_reducible refine x_Drt ?_ | with_reducible refine x_asg ?_ | ((with_reducible refine x_gname ?_); try dsimp only [List.set_cons_zero, List.set_cons_succ]) | with_reducible refine x_drop ?_ | with_reducible refine x_ifS ?_))
local macro_rules | `(tactic| walk_at "sxn") => `(tactic| repeat (first
  | with_reducible refine x_next ?_ | with_reducible refine x_Dnx ?_ | with_reducible refine x_Drt ?_ | with_reducible refine x_asg ?_ | ((with_reducible refine x_gname ?_); try dsimp only [List.set_cons_zero, List.set_cons_succ]) | with_reducible refine x_drop ?_))
/-! the first bad pair -/
def wordS : List Nat := [119, 111, 114, 100]
def textS : List Nat := [116, 101, 120, 116]
def BadAt (H : Hp) (r : Addr) : Bad → Prop
  | .word t i => H r = some (.tup [S wordS, S t, .int (i : Nat)])
  | .text k => H r = some (.tup [S textS, .int (k : Nat), .int 0])
theorem BadAt.ex {H H' : Hp} {r : Addr} {b : Bad} (h : BadAt H r b) (e : Ex H H') : BadAt H' r b := by
  cases b with
  | word t i => exact e _ _ h
  | text k => exact e _ _ h
def sp__law_first_bad : Sp := fun vs H Q _ => ∃ (q : Addr) (lt im : List Nat) (P : List PT), vs = [.ref q, S lt, S im] ∧ PairsIn H q P ∧ PBnd P ∧ lt.length ≤ 1000 ∧ im.length ≤ 1000 ∧
  (pGo lt im 0 P = none → ∀ H', Ex H H' → Q .non H') ∧ ∀ b, pGo lt im 0 P = some b → ∀ r H', Ex H H' → BadAt H' r b → Q (.ref r) H'
theorem ok__law_first_bad {P : Program} {w : World} {K : PySem.W.Frag} {mg : Str → Option Value} {base : Heap} {A : Ad} (T : Txt P K mg A) : FnOk P w K mg base CX0 1 A.a__law_first_bad A.fd__law_first_bad ["pairs", "letters", "images"] sp__law_first_bad := by
  refine T.F__law_first_bad.ok sc__law_first_bad (fun vs H Q E h => ?_) (fun cdv A' outer s H vs Q E hr h => ?_)
  · obtain ⟨q, lt, im, P0, rfl, _⟩ := h
    rfl
  · obtain ⟨q, lt, im, P0, rfl, hq, hz, hlt, him, kN, kB⟩ := h
    have hu := hu_of hr
    refine ⟨_, (pss_cons (ps_for PassesOwn.never rfl (pi_range1 (by rfl) T.n_range (pa_cons (pe_callB (show CallR _ _ (qLen K) from call_len_seq) (by rfl) T.n_len bt_len (pa_cons (pv 0) pa_nil)) pa_nil)) (pg_name (i := 3) sc__law_first_bad.nd rfl (Or.inl rfl))
    (pss_cons (ps_for PassesOwn.never rfl (pi_range1 (by rfl) T.n_range (pa_cons pe_int pa_nil)) (pg_name (i := 4) sc__law_first_bad.nd rfl (Or.inl rfl))
    (pss_one (ps_for PassesOwn.never rfl (pi_range1 (by rfl) T.n_range (pa_cons (pe_callB call_len_str (by rfl) T.n_len bt_len (pa_cons (pe_ix (show IxR _ (rIxT K) from ix_tup) (pe_ix (show IxR _ (rIxL K) from ix_list) (pv 0) (pv 3) (fun _ _ => rfl)) (pv 4) (fun _ _ => rfl)) pa_nil)) pa_nil)) (pg_name (i := 5) sc__law_first_bad.nd rfl (Or.inl rfl))
    (pss_one (ps_if (pt_cmpR op_notIn_sign (pe_ix ix_str (pe_ix (show IxR _ (rIxT K) from ix_tup) (pe_ix (show IxR _ (rIxL K) from ix_list) (pv 0) (pv 3) (fun _ _ => rfl)) (pv 4) (fun _ _ => rfl)) (pv 5) (fun _ _ => rfl)) (pe_ix (show IxR _ (rIxL K) from ix_list) (pe_lst (pa_cons (pv 1) (pa_cons (pv 2) pa_nil))) (pv 4) (fun _ _ => rfl)) rfl)
    (pss_one (ps_ret (pe_tup (pa_cons pe_str (pa_cons (pe_ix (show IxR _ (rIxT K) from ix_tup) (pe_ix (show IxR _ (rIxL K) from ix_list) (pv 0) (pv 3) (fun _ _ => rfl)) (pv 4) (fun _ _ => rfl)) (pa_cons (pv 5) pa_nil))))))
    pss_nil)))))
    (pss_one (ps_if (pt_cmpR op_ne (pe_callB call_len_str (by rfl) T.n_len bt_len (pa_cons (pe_ix (show IxR _ (rIxT K) from ix_tup) (pe_ix (show IxR _ (rIxL K) from ix_list) (pv 0) (pv 3) (fun _ _ => rfl)) pe_int (fun _ _ => rfl)) pa_nil)) (pe_callB call_len_str (by rfl) T.n_len bt_len (pa_cons (pe_ix (show IxR _ (rIxT K) from ix_tup) (pe_ix (show IxR _ (rIxL K) from ix_list) (pv 0) (pv 3) (fun _ _ => rfl)) pe_int (fun _ _ => rfl)) pa_nil)) (nomark _))
    (pss_one (ps_ret (pe_tup (pa_cons pe_str (pa_cons (pv 3) (pa_cons pe_int pa_nil))))))
    pss_nil))))
    (pss_one (ps_ret pe_non))),
      ?_⟩
    refine x_start (σ := [some (.ref q), some (S lt), some (S im), none, none, none]) rfl ?_
    obtain ⟨as, rfl, hq2, hra⟩ := id hq
    have hal := hz.1
    rw [List.length_map] at hal
    walk_at "sx"
    rw [Int.toNat_natCast, List.length_map]
    refine for_R (fun k σ H1 => ∃ o3 o4 o5 : Option V, σ = [some (.ref q), some (S lt), some (S im), o3, o4, o5] ∧ Ex H H1 ∧ pGo lt im k ((as.drop k).map fun z => z.2) = pGo lt im 0 (as.map fun z => z.2)) ⟨_, _, _, rfl, Ex.refl H, rfl⟩ ?_ ?_
    · rintro k σ H1 hk ⟨o3, o4, o5, rfl, e1, hb⟩
      have hz1 : as[k]? = some as[k] := List.getElem?_eq_getElem hk
      have hzm : as[k] ∈ as := List.getElem_mem hk
      rw [List.drop_eq_getElem_cons hk, List.map_cons, pGo] at hb
      generalize as[k] = z at hz1 hzm hb
      obtain ⟨zl1, zl2⟩ := hz.2 z.2 (List.mem_map.mpr ⟨z, hzm, rfl⟩)
      obtain ⟨ws, hws⟩ : ∃ ws : Nat → List Nat, ws = fun i => if i = 0 then z.2.1 else z.2.2 := ⟨_, rfl⟩
      obtain ⟨ls, hls⟩ : ∃ ls : Nat → List Nat, ls = fun i => if i = 0 then lt else im := ⟨_, rfl⟩
      have hw0 : ws 0 = z.2.1 := by rw [hws]; rfl
      have hw1 : ws 1 = z.2.2 := by rw [hws]; rfl
      have hl0 : ls 0 = lt := by rw [hls]; rfl
      have hl1 : ls 1 = im := by rw [hls]; rfl
      have hwi : ∀ i, i < 2 → ([S z.2.1, S z.2.2] : List V)[i]? = some (S (ws i)) ∧ ([S lt, S im] : List V)[i]? = some (S (ls i)) ∧ (ws i).length ≤ 1000 ∧ (ls i).length ≤ 1000 := fun i hi => by
        rcases i with _ | _ | i
        · rw [hw0, hl0]; exact ⟨rfl, rfl, zl1, hlt⟩
        · rw [hw1, hl1]; exact ⟨rfl, rfl, zl2, him⟩
        · omega
      have z0 : H z.1 = some (.tup [S z.2.1, S z.2.2]) := hra z hzm
      have bad : ∀ i j, i < 2 → (∀ i', i' < i → bwGo (ls i') 0 (ws i') = none) → bwGo (ls i) 0 (ws i) = some j → pGo lt im 0 (as.map fun z => z.2) = some (.word (ws i) j) := fun i j hi hp hj => by
        rcases i with _ | _ | i
        · rw [hw0, hl0] at hj
          rw [hj] at hb
          rw [← hb, hw0]
        · have h0 := hp 0 (by omega)
          rw [hw0, hl0] at h0
          rw [hw1, hl1] at hj
          rw [h0] at hb
          dsimp only at hb
          rw [hj] at hb
          rw [← hb, hw1]
        · omega
      walk_at "sx"
      rw [Int.zero_add]
      refine for_R (fun i σ H2 => ∃ o4 o5 : Option V, σ = [some (.ref q), some (S lt), some (S im), some (.int (k : Nat)), o4, o5] ∧ Ex H H2 ∧ ∀ i', i' < i → bwGo (ls i') 0 (ws i') = none) ⟨_, _, rfl, e1, fun _ h => absurd h (Nat.not_lt_zero _)⟩ ?_ ?_
      · rintro i σ H2 hi ⟨o4, o5, rfl, e2, hp2⟩
        have hi : i < 2 := hi
        obtain ⟨hwv, hlv, hwl, hll⟩ := hwi i hi
        have q2 := e2 _ _ hq2
        have z2 := e2 _ _ z0
        walk_at "sx"
        rw [Int.zero_add]
        refine x_ixL (.inl (.inl q2)) (v := .ref z.1) (atI_nat (by rw [List.getElem?_map, hz1]; rfl)) ?_
        walk_at "sx"
        refine x_ixT (.inl (.inl z2)) (atI_nat hwv) ?_
        walk_at "sx"
        rw [Int.toNat_natCast]
        refine for_R (fun j σ H3 => ∃ o5 : Option V, σ = [some (.ref q), some (S lt), some (S im), some (.int (k : Nat)), some (.int (i : Nat)), o5] ∧ Ex H H3 ∧ bwGo (ls i) j ((ws i).drop j) = bwGo (ls i) 0 (ws i)) ⟨_, rfl, e2, rfl⟩ ?_ ?_
        · rintro j σ H3 hj ⟨o5, rfl, e3, hbj⟩
          rw [List.drop_eq_getElem_cons hj, bwGo] at hbj
          have q3 := e3 _ _ hq2
          have z3 := e3 _ _ z0
          walk_at "sx"
          rw [Int.zero_add]
          refine x_ixL (.inl (.inl q3)) (v := .ref z.1) (atI_nat (by rw [List.getElem?_map, hz1]; rfl)) ?_
          walk_at "sx"
          refine x_ixT (.inl (.inl z3)) (atI_nat hwv) ?_
          walk_at "sx"
          refine x_ixS (by omega) (atI_nat (List.getElem?_eq_getElem hj)) ?_
          walk_at "sx"
          refine x_newLg (by simp) fun g H4 f4 e4 h4 => ?_
          walk_at "sx"
          refine x_ixL (.inl (.inl h4)) (atI_nat hlv) ?_
          walk_at "sx"
          have q4 := e4 _ _ q3
          have z4 := e4 _ _ z3
          refine x_iteN (fun c1 => ?_) (fun c1 => ?_)
          · rw [if_neg c1] at hbj
            have hbb := bad i j hi hp2 hbj.symm
            walk_at "sx"
            refine x_ixL (.inl (.inl q4)) (v := .ref z.1) (atI_nat (by rw [List.getElem?_map, hz1]; rfl)) ?_
            walk_at "sx"
            refine x_ixT (.inl (.inl z4)) (atI_nat hwv) ?_
            walk_at "sx"
            refine x_newTg (by simp) fun r H5 f5 e5 h5 => ?_
            walk_at "sx"
            exact kB _ hbb r H5 ((e3.trans e4).trans e5) h5
          · rw [if_pos c1] at hbj
            walk_at "sx"
            exact ⟨_, rfl, e3.trans e4, hbj⟩
        · rintro σ H3 ⟨o5, rfl, e3, hbj⟩
          rw [List.drop_length, bwGo] at hbj
          refine ⟨_, _, rfl, e3, fun i' hi' => ?_⟩
          by_cases e : i' = i
          · rw [e]; exact hbj.symm
          · exact hp2 i' (by omega)
      · rintro σ H2 ⟨o4, o5, rfl, e2, hp2⟩
        have h0 := hp2 0 (by decide)
        have h1 := hp2 1 (by decide)
        rw [hw0, hl0] at h0
        rw [hw1, hl1] at h1
        rw [h0] at hb
        dsimp only at hb
        rw [h1] at hb
        dsimp only at hb
        have q2 := e2 _ _ hq2
        have z2 := e2 _ _ z0
        walk_at "sx"
        refine x_ixL (.inl (.inl q2)) (v := .ref z.1) (atI_nat (by rw [List.getElem?_map, hz1]; rfl)) ?_
        walk_at "sx"
        refine x_ixL (.inl (.inl q2)) (v := .ref z.1) (atI_nat (by rw [List.getElem?_map, hz1]; rfl)) ?_
        walk_at "sx"
        refine x_iteN (fun c1 => ?_) (fun c1 => ?_)
        · rw [if_pos (by omega)] at hb
          walk_at "sx"
          refine x_newTg (by simp) fun r H5 f5 e5 h5 => ?_
          walk_at "sx"
          exact kB _ hb.symm r H5 (e2.trans e5) h5
        · rw [if_neg (by omega)] at hb
          walk_at "sx"
          exact ⟨_, _, _, rfl, e2, hb⟩
    · rintro σ H1 ⟨o3, o4, o5, rfl, e1, hb⟩
      rw [List.drop_length, List.map_nil, pGo] at hb
      have qq := kN hb.symm H1 e1
      walk_at "sx"
      exact qq

end TY

namespace TY
open PySem PyProof.Rows PySem.Spec L2 L2H
local macro_rules | `(tactic| walk_at "tylit") => `(tactic| first | exact lit_0 | exact lit_1 | exact lit_2 | exact lit_3 | exact lit_4 | exact lit_5 | exact lit_6 | exact lit_7 | exact lit_8 | exact lit_9 | exact lit_10 | exact lit_11 | exact lit_12 | exact lit_13 | exact lit_14 | exact lit_15 | exact lit_16 | exact lit_17 | exact lit_18 | exact lit_19 | exact lit_20 | exact lit_21 | exact lit_22)
/-! the word: one step; all steps -/
local macro_rules | `(tactic| walk_at "tysq") => `(tactic| first | assumption | exact Or.inl (Or.inl (by assumption)) | exact Or.inl (Or.inl upd_same))
local macro_rules | `(tactic| walk_at "tysqT") => `(tactic| first | assumption | exact Or.inl (Or.inl (by assumption)) | exact Or.inl (Or.inl upd_same))
local macro_rules | `(tactic| walk_at "tyhp") => `(tactic| first | assumption | exact upd_same)
local macro_rules | `(tactic| walk_at "tyc") => `(tactic| first | decide | assumption | omega | (simp only [List.length_map, List.length_append, List.length_cons, List.length_nil]; omega) | exact Or.inl ⟨by omega, by omega⟩ | exact ⟨by omega, by omega⟩ | exact ⟨by decide, by decide⟩)
local macro_rules | `(tactic| walk_at "sx1") => `(tactic| first
  | with_reducible refine x_seq ?_ | with_reducible refine x_next ?_ | with_reducible refine x_Dnx ?_ | with_reducible refine x_Drt ?_
  | with_reducible refine x_asg ?_ | ((with_reducible refine x_gname ?_); try dsimp only [List.set_cons_zero, List.set_cons_succ]) | with_reducible refine x_drop ?_ | with_reducible refine x_ret ?_
  | with_reducible refine x_ifS ?_ | with_reducible refine x_ifE ?_ | ((with_reducible apply x_var); (first | rfl | assumption)) | ((with_reducible apply x_cStr); with_reducible walk_at "tylit") | with_reducible refine x_c ?_
  | with_reducible refine l_addS ?_ | with_reducible refine l_inSign ?_ | with_reducible refine l_niSign ?_ | with_reducible refine l_repS ?_ | with_reducible refine x_then ?_ | with_reducible refine x_iTup ?_ | ((with_reducible apply x_gTup); (walk_at "tysqT"); rfl) | with_reducible refine x_gC ?_ | with_reducible refine x_gN ?_ | with_reducible refine x_nget ?_ | with_reducible refine x_nin ?_ | with_reducible refine x_nput ?_ | with_reducible refine x_nget2 ?_ | with_reducible refine x_inO ?_ | with_reducible refine x_callOA ?_ | with_reducible refine x_setd ?_ | with_reducible refine l_dictD ?_ | with_reducible refine x_din ?_ | with_reducible refine x_dnotin ?_ | with_reducible refine l_repA ?_ | with_reducible refine l_leS ?_ | with_reducible refine l_isN ?_ | with_reducible refine l_notN ?_
  | with_reducible refine x_op ?_ | with_reducible refine x_un ?_ | with_reducible refine x_I0 ?_ | ((with_reducible apply x_I); walk_at "tyc") | with_reducible refine x_U ?_
  | with_reducible refine x_eqI ?_ | with_reducible refine x_neI ?_ | with_reducible refine x_eqOne ?_ | with_reducible refine x_eqSt ?_ | with_reducible refine x_neSt ?_ | with_reducible refine x_eqS ?_ | with_reducible refine x_neS ?_
  | with_reducible refine x_test ?_ | with_reducible refine x_tB ?_ | with_reducible refine x_bl ?_ | with_reducible refine x_bl2 ?_
  | with_reducible refine x_yes ?_ | with_reducible refine x_and ?_ | with_reducible refine x_or ?_ | with_reducible refine x_not ?_ | with_reducible refine x_andV ?_ | with_reducible refine x_orV ?_ | with_reducible refine x_notV ?_
  | with_reducible refine x_nil ?_ | with_reducible refine x_cons ?_ | with_reducible refine l_len ?_ | with_reducible refine l_lenS ?_ | with_reducible refine l_int1 ?_ | with_reducible refine l_abs ?_ | with_reducible refine l_max2 ?_ | with_reducible refine l_min2 ?_ | with_reducible refine l_list ?_ | with_reducible refine l_listD ?_ | with_reducible refine l_strI ?_ | with_reducible refine x_cb ?_ | with_reducible refine x_call ?_ | with_reducible refine x_callS ?_ | with_reducible refine x_callE ?_
  | ((with_reducible apply x_aug); (first | rfl | assumption)) | with_reducible refine x_ipI ?_ | with_reducible refine x_sl ?_ | with_reducible refine x_nopart ?_ | with_reducible refine x_part ?_ | with_reducible refine x_int ?_
  | with_reducible refine x_gsub ?_ | with_reducible refine x_bm ?_ | with_reducible refine x_bm0 ?_ | with_reducible refine l_upper ?_ | with_reducible refine l_join ?_ | with_reducible refine l_index ?_ | with_reducible refine x_m0 ?_ | with_reducible refine x_m1 ?_ | with_reducible refine x_strA ?_ | with_reducible refine x_augS ?_
  | ((with_reducible apply x_tyL); walk_at "tysq")
  | ((with_reducible apply x_addS); walk_at "tyc") | with_reducible refine x_inSign ?_ | with_reducible refine x_niSign ?_ | with_reducible refine x_leS ?_ | with_reducible refine x_isN ?_ | with_reducible refine x_notN ?_ | with_reducible refine x_max2 ?_ | with_reducible refine x_min2 ?_
  | ((with_reducible apply x_lenS); walk_at "tyc") | ((with_reducible apply x_lenL); walk_at "tysq")
  | with_reducible refine x_int1 ?_ | with_reducible refine x_abs ?_
  | ((with_reducible apply x_ixL); walk_at "tysq"; rfl) | ((with_reducible apply x_setL); walk_at "tyhp"; rfl)
  | with_reducible refine x_lc ?_ | with_reducible refine x_for ?_ | with_reducible refine x_iStr ?_ | with_reducible refine x_qStr ?_ | with_reducible refine x_iLst ?_ | ((with_reducible apply x_qLst); walk_at "tysq")
  | with_reducible refine x_iRng1 ?_ | with_reducible refine x_iRng2 ?_ | ((with_reducible apply x_qRng1); walk_at "tyc") | ((with_reducible apply x_qRng2); walk_at "tyc") | with_reducible refine x_iEnS ?_ | with_reducible refine x_qEnS ?_
  | ((with_reducible apply x_slS); walk_at "tyc")
  | with_reducible refine x_lst ?_ | with_reducible refine x_tup ?_
  | with_reducible refine x_listZip ?_ | with_reducible refine x_iRev ?_ | ((with_reducible apply x_qRev); walk_at "tysq") | with_reducible refine x_dget ?_ | with_reducible refine x_dput ?_ | with_reducible refine x_tern ?_ | with_reducible refine x_replA ?_ | with_reducible refine x_replC ?_ | with_reducible refine x_sl3 ?_ | with_reducible refine x_iEnL ?_ | with_reducible refine x_lc2 ?_ | with_reducible refine x_ckw ?_ | with_reducible refine x_eqB ?_ | with_reducible refine x_fld ?_ | with_reducible refine x_sfld ?_ | with_reducible refine x_makeS ?_ | with_reducible refine x_methA ?_ | with_reducible refine x_fmt ?_ | with_reducible refine x_js0 ?_ | with_reducible refine x_js ?_ | ((with_reducible apply x_qJs); walk_at "tyc") | with_reducible refine x_jsE ?_ | with_reducible refine x_mkO ?_ | ((with_reducible apply x_ixT); walk_at "tysqT"; rfl)
  | with_reducible refine x_iteT ?_ | with_reducible refine x_iteF ?_ | with_reducible refine x_iteNT' ?_ | with_reducible refine x_iteNF' ?_)
local macro_rules | `(tactic| walk_at "sx") => `(tactic| repeat walk_at "sx1")
local macro_rules | `(tactic| walk_at "sxi") => `(tactic| repeat (first
  | with_reducible refine x_seq ?_ | with_reducible refine x_next ?_ | with_reducible refine x_Dnx ?_ | with_reducible refine x_Drt ?_ | with_reducible refine x_asg ?_ | ((with_reducible refine x_gname ?_); try dsimp only [List.set_cons_zero, List.set_cons_succ]) | with_reducible refine x_drop ?_ | with_reducible refine x_ifS ?_))
local macro_rules | `(tactic| walk_at "sxn") => `(tactic| repeat (first
  | with_reducible refine x_next ?_ | with_reducible refine x_Dnx ?_ | with_reducible refine x_Drt ?_ | with_reducible refine x_asg ?_ | ((with_reducible refine x_gname ?_); try dsimp only [List.set_cons_zero, List.set_cons_succ]) | with_reducible refine x_drop ?_))
/-! spoilt pairs are refused -/
def sp__law_refused : Sp := fun vs H Q _ => ∃ (q r : Addr) (lt im : List Nat) (n : Nat) (P : List PT) (b : Bad), vs = [S lt, S im, .int (n : Nat), .ref q, .ref r] ∧ PairsIn H q P ∧ goodL lt = true ∧ goodL im = true ∧ lt.length ≤ 1000 ∧ im.length ≤ 1000 ∧ n ≤ 1000 ∧ PBnd P ∧ pGo lt im 0 P = some b ∧ BadAt H r b ∧ ∀ H', Ex H H' → Q (.bl true) H'
theorem ok__law_refused {P : Program} {w : World} {K : PySem.W.Frag} {mg : Str → Option Value} {base : Heap} {A : Ad} (T : Txt P K mg A) : FnOk P w K mg base CX0 6 A.a__law_refused A.fd__law_refused ["letters", "images", "size", "pairs", "bad"] sp__law_refused := by
  refine T.F__law_refused.ok sc__law_refused (fun vs H Q E h => ?_) (fun cdv A' outer s H vs Q E hr h => ?_)
  · obtain ⟨q, r, lt, im, n, P0, b, rfl, _⟩ := h
    rfl
  · obtain ⟨q, r, lt, im, n, P0, b, rfl, hq, g1, g2, hlt, him, hn, hz, hb, hr0, k⟩ := h
    have hu := hu_of hr
    refine ⟨_, (pss_cons (ps_try_as (i := 5) (ts := (fun a cls d => tSeq (tIfS (tTest (tOp rEq (tOp (rIxT K) (tVar 4) (tC (.int 0))) (tC (.str "text")))) (tRet (tAndV (tCB (rIsP K a cls d) (tCons (tVar 5) (tCons (tC (.ref A.c_BadText)) tNil))) (tAndV (tNotV (tCB (rIsP K a cls d) (tCons (tVar 5) (tCons (tC (.ref A.c_BadWord)) tNil)))) (tOp rEq (tXp K a cls d "line" (tVar 5)) (tOp (rIxT K) (tVar 4) (tC (.int 1))))))) tNext) (tRet (tAndV (tCB (rIsP K a cls d) (tCons (tVar 5) (tCons (tC (.ref A.c_BadWord)) tNil))) (tAndV (tNotV (tCB (rIsP K a cls d) (tCons (tVar 5) (tCons (tC (.ref A.c_BadText)) tNil)))) (tAndV (tOp rEq (tXp K a cls d "word" (tVar 5)) (tOp (rIxT K) (tVar 4) (tC (.int 1)))) (tOp rEq (tXp K a cls d "place" (tVar 5)) (tOp (rIxT K) (tVar 4) (tC (.int 2)))))))))) rfl rfl sc__law_refused.nd rfl rfl ⟨rfl, by decide, .inl T.g_LanguageError⟩ takes0 (fun W pn xe tk _ => (pss_one (ps_expr (pe_callS (ok_fit_turner (w := w) T) (hr.mono (by decide)) rfl T.g_fit_turner T.F_fit_turner.kp T.b_fit_turner (fun σ => passAt tk σ) (pa_cons (pv 0) (pa_cons (pv 1) (pa_cons (pv 2) (pa_cons (pv 3) pa_nil))))))))
    (fun a oe cls d pn hz hf => (pss_cons (ps_if (pt_cmpR op_eq (pe_ix (show IxR _ (rIxT K) from ix_tup) (pv 4) pe_int (fun _ _ => rfl)) pe_str (nomark _))
    (pss_one (ps_ret (pe_and (pe_callB (call_isP List.mem_cons_self hz hf) (by rfl) T.n_isinstance bt_isinstance (pa_cons (pv 5) (pa_cons (pe_glob (v := .ref A.c_BadText) rfl T.g_BadText rfl) pa_nil))) (pe_and (pe_not (pe_callB (call_isP List.mem_cons_self hz hf) (by rfl) T.n_isinstance bt_isinstance (pa_cons (pv 5) (pa_cons (pe_glob (v := .ref A.c_BadWord) rfl T.g_BadWord rfl) pa_nil)))) (pe_one (pe_cmpR op_eq (pe_xp List.mem_cons_self hz hf (pv 5)) (pe_ix (show IxR _ (rIxT K) from ix_tup) (pv 4) pe_int (fun _ _ => rfl)) (nomark _)))))))
    pss_nil)
    (pss_one (ps_ret (pe_and (pe_callB (call_isP List.mem_cons_self hz hf) (by rfl) T.n_isinstance bt_isinstance (pa_cons (pv 5) (pa_cons (pe_glob (v := .ref A.c_BadWord) rfl T.g_BadWord rfl) pa_nil))) (pe_and (pe_not (pe_callB (call_isP List.mem_cons_self hz hf) (by rfl) T.n_isinstance bt_isinstance (pa_cons (pv 5) (pa_cons (pe_glob (v := .ref A.c_BadText) rfl T.g_BadText rfl) pa_nil)))) (pe_and (pe_cmpR op_eq (pe_xp List.mem_cons_self hz hf (pv 5)) (pe_ix (show IxR _ (rIxT K) from ix_tup) (pv 4) pe_int (fun _ _ => rfl)) (nomark _)) (pe_one (pe_cmpR op_eq (pe_xp List.mem_cons_self hz hf (pv 5)) (pe_ix (show IxR _ (rIxT K) from ix_tup) (pv 4) pe_int (fun _ _ => rfl)) (nomark _)))))))))))
    (pss_one (ps_ret pe_bl))),
      ?_⟩
    refine x_start (σ := [some (S lt), some (S im), some (.int (n : Nat)), some (.ref q), some (.ref r), none]) rfl ?_
    walk_at "sx"
    refine ⟨q, lt, im, n, P0, rfl, hq, g1, g2, hlt, him, hn, hz, fun hp => absurd hp (by rw [hb]; exact fun z => nomatch z), fun hp => absurd hp (by rw [hb]; exact fun z => nomatch z), ?_⟩
    rw [hb]
    cases b with
    | word t i =>
      intro d H1 e1 hx
      have hr1 : H1 r = some (.tup [S wordS, S t, .int (i : Nat)]) := e1 _ _ hr0
      refine x_wAs T.te_BadWord_LanguageError fun a ha => ?_
      walk_at "sx"
      rw [if_neg (by decide)]
      walk_at "sx"
      refine x_isP T.ec_BadWord T.ki_BadWord_BadWord (fun _ e => by cases e; exact ⟨_, hx⟩) ?_
      walk_at "sx"
      refine x_isP T.ec_BadWord T.ki_BadWord_BadText (fun _ e => by cases e; exact ⟨_, hx⟩) ?_
      refine ⟨_, rfl, _, rfl, ?_⟩
      walk_at "sx"
      refine x_xp ?_
      walk_at "sx"
      refine x_qXp T.xf_BadWord T.no_BadWord_word hx rfl ?_
      walk_at "sx"
      rw [if_pos (by simp)]
      walk_at "sx"
      refine x_xp ?_
      walk_at "sx"
      refine x_qXp T.xf_BadWord T.no_BadWord_place hx rfl ?_
      walk_at "sx"
      have e : decide ((i : Int) = (i : Nat)) = true := decide_eq_true rfl
      rw [e]
      exact k H1 e1
    | text j =>
      intro d H1 e1 hx
      have hr1 : H1 r = some (.tup [S textS, .int (j : Nat), .int 0]) := e1 _ _ hr0
      refine x_wAs T.te_BadText_LanguageError fun a ha => ?_
      walk_at "sx"
      rw [if_pos (by decide)]
      walk_at "sx"
      refine x_isP T.ec_BadText T.ki_BadText_BadText (fun _ e => by cases e; exact ⟨_, hx⟩) ?_
      walk_at "sx"
      refine x_isP T.ec_BadText T.ki_BadText_BadWord (fun _ e => by cases e; exact ⟨_, hx⟩) ?_
      refine ⟨_, rfl, _, rfl, ?_⟩
      walk_at "sx"
      refine x_xp ?_
      walk_at "sx"
      refine x_qXp T.xf_BadText T.no_BadText_line hx rfl ?_
      walk_at "sx"
      have e : decide ((j : Int) = (j : Nat)) = true := decide_eq_true rfl
      rw [e]
      exact k H1 e1

end TY

namespace TY
open PySem PyProof.Rows PySem.Spec L2 L2H
local macro_rules | `(tactic| walk_at "tylit") => `(tactic| first | exact lit_0 | exact lit_1 | exact lit_2 | exact lit_3 | exact lit_4 | exact lit_5 | exact lit_6 | exact lit_7 | exact lit_8 | exact lit_9 | exact lit_10 | exact lit_11 | exact lit_12 | exact lit_13 | exact lit_14 | exact lit_15 | exact lit_16 | exact lit_17 | exact lit_18 | exact lit_19 | exact lit_20 | exact lit_21 | exact lit_22)
/-! the word: one step; all steps -/
local macro_rules | `(tactic| walk_at "tysq") => `(tactic| first | assumption | exact Or.inl (Or.inl (by assumption)) | exact Or.inl (Or.inl upd_same))
local macro_rules | `(tactic| walk_at "tysqT") => `(tactic| first | assumption | exact Or.inl (Or.inl (by assumption)) | exact Or.inl (Or.inl upd_same))
local macro_rules | `(tactic| walk_at "tyhp") => `(tactic| first | assumption | exact upd_same)
local macro_rules | `(tactic| walk_at "tyc") => `(tactic| first | decide | assumption | omega | (simp only [List.length_map, List.length_append, List.length_cons, List.length_nil]; omega) | exact Or.inl ⟨by omega, by omega⟩ | exact ⟨by omega, by omega⟩ | exact ⟨by decide, by decide⟩)
local macro_rules | `(tactic| walk_at "sx1") => `(tactic| first
  | with_reducible refine x_seq ?_ | with_reducible refine x_next ?_ | with_reducible refine x_Dnx ?_ | with_reducible refine x_Drt ?_
  | with_reducible refine x_asg ?_ | ((with_reducible refine x_gname ?_); try dsimp only [List.set_cons_zero, List.set_cons_succ]) | with_reducible refine x_drop ?_ | with_reducible refine x_ret ?_
  | with_reducible refine x_ifS ?_ | with_reducible refine x_ifE ?_ | ((with_reducible apply x_var); (first | rfl | assumption)) | ((with_reducible apply x_cStr); with_reducible walk_at "tylit") | with_reducible refine x_c ?_
  | with_reducible refine l_addS ?_ | with_reducible refine l_inSign ?_ | with_reducible refine l_niSign ?_ | with_reducible refine l_repS ?_ | with_reducible refine x_then ?_ | with_reducible refine x_iTup ?_ | ((with_reducible apply x_gTup); (walk_at "tysqT"); rfl) | with_reducible refine x_gC ?_ | with_reducible refine x_gN ?_ | with_reducible refine x_nget ?_ | with_reducible refine x_nin ?_ | with_reducible refine x_nput ?_ | with_reducible refine x_nget2 ?_ | with_reducible refine x_inO ?_ | with_reducible refine x_callOA ?_ | with_reducible refine x_setd ?_ | with_reducible refine l_dictD ?_ | with_reducible refine x_din ?_ | with_reducible refine x_dnotin ?_ | with_reducible refine l_repA ?_ | with_reducible refine l_leS ?_ | with_reducible refine l_isN ?_ | with_reducible refine l_notN ?_
  | with_reducible refine x_op ?_ | with_reducible refine x_un ?_ | with_reducible refine x_I0 ?_ | ((with_reducible apply x_I); walk_at "tyc") | with_reducible refine x_U ?_
  | with_reducible refine x_eqI ?_ | with_reducible refine x_neI ?_ | with_reducible refine x_eqOne ?_ | with_reducible refine x_eqSt ?_ | with_reducible refine x_neSt ?_ | with_reducible refine x_eqS ?_ | with_reducible refine x_neS ?_
  | with_reducible refine x_test ?_ | with_reducible refine x_tB ?_ | with_reducible refine x_bl ?_ | with_reducible refine x_bl2 ?_
  | with_reducible refine x_yes ?_ | with_reducible refine x_and ?_ | with_reducible refine x_or ?_ | with_reducible refine x_not ?_ | with_reducible refine x_andV ?_ | with_reducible refine x_orV ?_ | with_reducible refine x_notV ?_
  | with_reducible refine x_nil ?_ | with_reducible refine x_cons ?_ | with_reducible refine l_len ?_ | with_reducible refine l_lenS ?_ | with_reducible refine l_int1 ?_ | with_reducible refine l_abs ?_ | with_reducible refine l_max2 ?_ | with_reducible refine l_min2 ?_ | with_reducible refine l_list ?_ | with_reducible refine l_listD ?_ | with_reducible refine l_strI ?_ | with_reducible refine x_cb ?_ | with_reducible refine x_call ?_ | with_reducible refine x_callS ?_ | with_reducible refine x_callE ?_
  | ((with_reducible apply x_aug); (first | rfl | assumption)) | with_reducible refine x_ipI ?_ | with_reducible refine x_sl ?_ | with_reducible refine x_nopart ?_ | with_reducible refine x_part ?_ | with_reducible refine x_int ?_
  | with_reducible refine x_gsub ?_ | with_reducible refine x_bm ?_ | with_reducible refine x_bm0 ?_ | with_reducible refine l_upper ?_ | with_reducible refine l_join ?_ | with_reducible refine l_index ?_ | with_reducible refine x_m0 ?_ | with_reducible refine x_m1 ?_ | with_reducible refine x_strA ?_ | with_reducible refine x_augS ?_
  | ((with_reducible apply x_tyL); walk_at "tysq")
  | ((with_reducible apply x_addS); walk_at "tyc") | with_reducible refine x_inSign ?_ | with_reducible refine x_niSign ?_ | with_reducible refine x_leS ?_ | with_reducible refine x_isN ?_ | with_reducible refine x_notN ?_ | with_reducible refine x_max2 ?_ | with_reducible refine x_min2 ?_
  | ((with_reducible apply x_lenS); walk_at "tyc") | ((with_reducible apply x_lenL); walk_at "tysq")
  | with_reducible refine x_int1 ?_ | with_reducible refine x_abs ?_
  | ((with_reducible apply x_ixL); walk_at "tysq"; rfl) | ((with_reducible apply x_setL); walk_at "tyhp"; rfl)
  | with_reducible refine x_lc ?_ | with_reducible refine x_for ?_ | with_reducible refine x_iStr ?_ | with_reducible refine x_qStr ?_ | with_reducible refine x_iLst ?_ | ((with_reducible apply x_qLst); walk_at "tysq")
  | with_reducible refine x_iRng1 ?_ | with_reducible refine x_iRng2 ?_ | ((with_reducible apply x_qRng1); walk_at "tyc") | ((with_reducible apply x_qRng2); walk_at "tyc") | with_reducible refine x_iEnS ?_ | with_reducible refine x_qEnS ?_
  | ((with_reducible apply x_slS); walk_at "tyc")
  | with_reducible refine x_lst ?_ | with_reducible refine x_tup ?_
  | with_reducible refine x_listZip ?_ | with_reducible refine x_iRev ?_ | ((with_reducible apply x_qRev); walk_at "tysq") | with_reducible refine x_dget ?_ | with_reducible refine x_dput ?_ | with_reducible refine x_tern ?_ | with_reducible refine x_replA ?_ | with_reducible refine x_replC ?_ | with_reducible refine x_sl3 ?_ | with_reducible refine x_iEnL ?_ | with_reducible refine x_lc2 ?_ | with_reducible refine x_ckw ?_ | with_reducible refine x_eqB ?_ | with_reducible refine x_fld ?_ | with_reducible refine x_sfld ?_ | with_reducible refine x_makeS ?_ | with_reducible refine x_methA ?_ | with_reducible refine x_fmt ?_ | with_reducible refine x_js0 ?_ | with_reducible refine x_js ?_ | ((with_reducible apply x_qJs); walk_at "tyc") | with_reducible refine x_jsE ?_ | with_reducible refine x_mkO ?_ | ((with_reducible apply x_ixT); walk_at "tysqT"; rfl)
  | with_reducible refine x_iteT ?_ | with_reducible refine x_iteF ?_ | with_reducible refine x_iteNT' ?_ | with_reducible refine x_iteNF' ?_)
local macro_rules | `(tactic| walk_at "sx") => `(tactic| repeat walk_at "sx1")
local macro_rules | `(tactic| walk_at "sxi") => `(tactic| repeat (first
  | with_reducible refine x_seq ?_ | with_reducible refine x_next ?_ | with_reducible refine x_Dnx ?_ | with_reducible refine x_Drt ?_ | with_reducible refine x_asg ?_ | ((with_reducible refine x_gname ?_); try dsimp only [List.set_cons_zero, List.set_cons_succ]) | with_reducible refine x_drop ?_ | with_reducible refine x_ifS ?_))
local macro_rules | `(tactic| walk_at "sxn") => `(tactic| repeat (first
  | with_reducible refine x_next ?_ | with_reducible refine x_Dnx ?_ | with_reducible refine x_Drt ?_ | with_reducible refine x_asg ?_ | ((with_reducible refine x_gname ?_); try dsimp only [List.set_cons_zero, List.set_cons_succ]) | with_reducible refine x_drop ?_))
/-! the law -/
theorem StOk.nn {H : Hp} {p c g : Addr} (s : StOk H p c) (f : H g = none) : g ≠ p := fun z => by
  obtain ⟨_, ⟨_, _, _, h⟩, _⟩ := s
  rw [← z, f] at h
  cases h
def LtOk (l : List Nat) : Prop := goodL l = true ∧ 1 ≤ l.length ∧ l.length ≤ 4 ∧ ∀ x ∈ l, x < 1000
def lets87 : List (List Nat) := [[97, 98], [97], [97, 98, 99], [98, 100], [97, 99, 122], [97, 98, 99, 100]]
def imgs87 : List (List Nat) := [[97, 98], [120, 121], [112, 113, 114, 115], [122], [97, 98, 99], [98, 100]]
theorem lets_ok : ∀ l ∈ lets87, LtOk l := by unfold LtOk lets87; decide
theorem imgs_ok : ∀ l ∈ imgs87, LtOk l := by unfold LtOk imgs87; decide
theorem pick_ok {L : List (List Nat)} (h : ∀ l ∈ L, LtOk l) {b : Nat} (hb : b < L.length) : ∃ l, (L.map S)[b]? = some (S l) ∧ LtOk l :=
  ⟨L[b], by rw [List.getElem?_map, List.getElem?_eq_getElem hb]; rfl, h _ (List.getElem_mem hb)⟩
theorem PairsIn.two {H H' : Hp} {p c q kd : Addr} {P : List PT} {kvs : List (Key × V)} (h : PairsIn H q P) (s : StOk H p c) (hd : H kd = some (.dK kvs)) (e : Ex2 p kd H H') : PairsIn H' q P := by
  have n := h.ns s
  obtain ⟨as, h1, h2, h3⟩ := h
  refine ⟨as, h1, e _ _ n.1 (fun z => by rw [z, hd] at h2; cases h2) h2, fun z hz => ?_⟩
  have hp := h3 z hz
  unfold PairAt at hp
  exact e _ _ (s.neT hp).1 (fun y => by rw [y, hd] at hp; cases hp) hp
theorem PairsIn.snoc {H H' : Hp} {q t : Addr} {P : List PT} {x : PT} (h : PairsIn H q P) (ht : H t = some (.tup [S x.1, S x.2])) (hs : ∀ xs, H q = some (.lst xs) → H' q = some (.lst (xs ++ [.ref t]))) (k : ∀ b, b ≠ q → H' b = H b) : PairsIn H' q (P ++ [x]) := by
  have h0 := h
  obtain ⟨as, h1, h2, h3⟩ := h
  refine ⟨as ++ [(t, x)], by rw [List.map_append, h1]; rfl, ?_, fun z hz => ?_⟩
  · rw [hs _ h2]
    show some (HO.lst _) = some (HO.lst ((as ++ [(t, x)]).map fun z => V.ref z.1))
    rw [List.map_append]
    rfl
  · rcases List.mem_append.mp hz with m | m
    · show H' z.1 = _
      rw [k z.1 (h0.neT (h3 z m))]
      exact h3 z m
    · rw [List.mem_singleton.mp m]
      show H' t = _
      rw [k t (h0.neT ht)]
      exact ht
theorem PairsIn.len {H : Hp} {q : Addr} {P : List PT} {xs : List V} (h : PairsIn H q P) (hx : H q = some (.lst xs)) : xs.length = P.length := by
  obtain ⟨as, h1, h2, h3⟩ := h
  rw [hx] at h2
  have h2 := Option.some.inj h2
  injection h2 with h2
  rw [h2, ← h1, List.length_map, List.length_map]
theorem PairsIn.at {H : Hp} {q : Addr} {P : List PT} (h : PairsIn H q P) : ∃ xs, H q = some (.lst xs) := by
  obtain ⟨as, h1, h2, h3⟩ := h
  exact ⟨_, h2⟩
theorem StOk.off {H H' : Hp} {p c q : Addr} (s : StOk H p c) (n : q ≠ p ∧ q ≠ c) (k : ∀ b, b ≠ q → H' b = H b) : StOk H' p c := by
  obtain ⟨n0, ⟨a, b, e, h⟩, cells, h3, h4, h5⟩ := s
  exact ⟨n0, ⟨a, b, e, by rw [k p n.1.symm]; exact h⟩, cells, h3, h4, by rw [k c n.2.symm]; exact h5⟩
theorem PairsIn.copy {H H' : Hp} {q g : Addr} {P : List PT} {xs : List V} (h : PairsIn H q P) (hx : H q = some (.lst xs)) (e : Ex H H') (hg : H' g = some (.lst xs)) : PairsIn H' g P := by
  obtain ⟨as, h1, h2, h3⟩ := h
  rw [hx] at h2
  injection Option.some.inj h2 with h2
  exact ⟨as, h1, by rw [hg, h2], fun z hz => e _ _ (h3 z hz)⟩
def dP (p : PT) : PyData := .tuple [.str (st p.1), .str (st p.2)]
theorem dp_pairs {K : PySem.W.Frag} {H : Hp} : ∀ as : List AP, (∀ z ∈ as, PairAt H z) → DpAll K H (prefs as) ((as.map fun z => z.2).map dP)
  | [], _ => .nil
  | z :: as, h => .cons (.tup (.inl (.inl (h z List.mem_cons_self))) (.cons (.str _) (.cons (.str _) .nil))) (dp_pairs as fun y hy => h y (List.mem_cons_of_mem _ hy))
theorem PairsIn.dp {K : PySem.W.Frag} {H : Hp} {q : Addr} {P : List PT} (h : PairsIn H q P) : Dp K H (.ref q) (.list (P.map dP)) := by
  obtain ⟨as, rfl, h2, h3⟩ := h
  exact .lst (.inl (.inl h2)) (dp_pairs as h3)
theorem lay_pairs : ∀ P : List PT, (∀ p ∈ P, ∀ x ∈ p.1 ++ p.2, x < 1000) → PyData.canLayAll0 (P.map dP) = true
  | [], _ => by (simp [PyData.canLayAll0])
  | p :: P, h => by
    have o1 := strOk_lt (l := p.1) fun x hx => h p List.mem_cons_self x (List.mem_append_left _ hx)
    have o2 := strOk_lt (l := p.2) fun x hx => h p List.mem_cons_self x (List.mem_append_right _ hx)
    simp [PyData.canLayAll0, dP, PyData.canLay0, o1, o2, lay_pairs P fun x hx => h x (List.mem_cons_of_mem _ hx)]
theorem dep_pairs : ∀ P : List PT, PyData.depthAll (P.map dP) ≤ 1
  | [] => by (simp [PyData.depthAll])
  | p :: P => by
    have := dep_pairs P
    simp only [List.map_cons, PyData.depthAll, dP, PyData.depth]
    omega
theorem eqv_pairs : ∀ P : List PT, PyData.eqvAll (P.map dP) (P.map dP) = true
  | [] => by simp [PyData.eqvAll]
  | p :: P => by simp [PyData.eqvAll, dP, PyData.eqv, eqv_pairs P]
theorem sh_pairs {P : List PT} {m : Nat} (h : Lens m P) : SeqAt.shaped (.list (P.map dP)) = true := by
  have h1 : PyData.canLay0 (.list (P.map dP)) = true := by
    simp only [PyData.canLay0]
    exact lay_pairs P fun p hp => (h p hp).2.2
  have h2 : PyData.depth (.list (P.map dP)) ≤ 64 := by
    have q := dep_pairs P
    simp only [PyData.depth]
    omega
  unfold SeqAt.shaped
  rw [h1, decide_eq_true h2]
  rfl
theorem ev_pairs (P : List PT) : PyData.eqv (.list (P.map dP)) (.list (P.map dP)) = true := by
  simp only [PyData.eqv]
  exact eqv_pairs P
def sp_law (K : PySem.W.Frag) : Sp := fun vs H Q _ => ∃ (a : Addr) (ns : List Int), vs = [.ref a] ∧ SqL K H a (ns.map V.int) ∧ ns.length ≤ 63 ∧ ∀ H', Q (.bl true) H'
theorem ok_law {P : Program} {w : World} {K : PySem.W.Frag} {mg : Str → Option Value} {base : Heap} {A : Ad} (T : Txt P K mg A) : FnOk P w K mg base CX0 7 A.a_law A.fd_law ["script"] (sp_law K) := by
  refine T.F_law.ok sc_law (fun vs H Q E h => ?_) (fun cdv A' outer s H vs Q E hr h => ?_)
  · obtain ⟨a, ns, rfl, _⟩ := h
    rfl
  · obtain ⟨a, ns, rfl, hS, hn, k⟩ := h
    have hu := hu_of hr
    refine ⟨_, (pss_cons (ps_set (i := 1) sc_law.nd rfl (Or.inr rfl) (pe_call (ok__law_start (w := w) T) (hr.mono (by decide)) rfl T.g__law_start T.F__law_start.kp T.b__law_start .nil pass0 (pa_cons (pv 0) pa_nil)))
    (pss_cons (ps_set (i := 2) sc_law.nd rfl (Or.inr rfl) (pe_ix (show IxR _ (rIxL K) from ix_list) (pe_lst (pa_cons pe_str (pa_cons pe_str (pa_cons pe_str (pa_cons pe_str (pa_cons pe_str (pa_cons pe_str pa_nil))))))) (pe_call (ok__law_next (w := w) T) (hr.mono (by decide)) rfl T.g__law_next T.F__law_next.kp T.b__law_next .nil pass0 (pa_cons (pv 1) (pa_cons pe_int pa_nil))) (fun _ _ => rfl)))
    (pss_cons (ps_set (i := 3) sc_law.nd rfl (Or.inl rfl) (pe_ix (show IxR _ (rIxL K) from ix_list) (pe_lst (pa_cons pe_str (pa_cons pe_str (pa_cons pe_str (pa_cons pe_str (pa_cons pe_str (pa_cons pe_str pa_nil))))))) (pe_call (ok__law_next (w := w) T) (hr.mono (by decide)) rfl T.g__law_next T.F__law_next.kp T.b__law_next .nil pass0 (pa_cons (pv 1) (pa_cons pe_int pa_nil))) (fun _ _ => rfl)))
    (pss_cons (ps_set (i := 4) sc_law.nd rfl (Or.inl rfl) (pe_op op_add pe_int (pe_call (ok__law_next (w := w) T) (hr.mono (by decide)) rfl T.g__law_next T.F__law_next.kp T.b__law_next .nil pass0 (pa_cons (pv 1) (pa_cons pe_int pa_nil)))))
    (pss_cons (ps_set (i := 5) sc_law.nd rfl (Or.inl rfl) (pe_op op_add pe_int (pe_call (ok__law_next (w := w) T) (hr.mono (by decide)) rfl T.g__law_next T.F__law_next.kp T.b__law_next .nil pass0 (pa_cons (pv 1) (pa_cons pe_int pa_nil)))))
    (pss_cons (ps_if (pt_cmpR op_eq (pe_call (ok__law_next (w := w) T) (hr.mono (by decide)) rfl T.g__law_next T.F__law_next.kp T.b__law_next .nil pass0 (pa_cons (pv 1) (pa_cons pe_int pa_nil))) pe_int (nomark _))
    (pss_one (ps_set (i := 5) sc_law.nd rfl (Or.inl rfl) (pe_op op_add pe_int (pe_call (ok__law_next (w := w) T) (hr.mono (by decide)) rfl T.g__law_next T.F__law_next.kp T.b__law_next .nil pass0 (pa_cons (pv 1) (pa_cons pe_int pa_nil))))))
    pss_nil)
    (pss_cons (ps_set (i := 6) sc_law.nd rfl (Or.inl rfl) (pe_call (ok__law_next (w := w) T) (hr.mono (by decide)) rfl T.g__law_next T.F__law_next.kp T.b__law_next .nil pass0 (pa_cons (pv 1) (pa_cons pe_int pa_nil))))
    (pss_cons (ps_set (i := 7) sc_law.nd rfl (Or.inl rfl) pe_int)
    (pss_cons (ps_if (pt_cmpR op_eq (pe_call (ok__law_next (w := w) T) (hr.mono (by decide)) rfl T.g__law_next T.F__law_next.kp T.b__law_next .nil pass0 (pa_cons (pv 1) (pa_cons pe_int pa_nil))) pe_int (nomark _))
    (pss_cons (ps_set (i := 6) sc_law.nd rfl (Or.inl rfl) (pe_op op_add pe_int (pe_call (ok__law_next (w := w) T) (hr.mono (by decide)) rfl T.g__law_next T.F__law_next.kp T.b__law_next .nil pass0 (pa_cons (pv 1) (pa_cons pe_int pa_nil)))))
    (pss_one (ps_set (i := 7) sc_law.nd rfl (Or.inl rfl) pe_int)))
    pss_nil)
    (pss_cons (ps_set (i := 8) sc_law.nd rfl (Or.inl rfl) pe_dnewK)
    (pss_cons (ps_set (i := 9) sc_law.nd rfl (Or.inl rfl) (pe_lst pa_nil))
    (pss_cons (ps_for PassesOwn.never rfl (pi_range1 (by rfl) T.n_range (pa_cons (pv 6) pa_nil)) (pg_name (i := 10) sc_law.nd rfl (Or.inl rfl))
    (pss_cons (ps_set (i := 11) sc_law.nd rfl (Or.inl rfl) (pe_call (ok__law_word (w := w) T) (hr.mono (by decide)) rfl T.g__law_word T.F__law_word.kp T.b__law_word .nil pass0 (pa_cons (pv 1) (pa_cons (pv 2) (pa_cons (pe_call (ok__law_next (w := w) T) (hr.mono (by decide)) rfl T.g__law_next T.F__law_next.kp T.b__law_next .nil pass0 (pa_cons (pv 1) (pa_cons (pe_op op_add (pv 7) pe_int) pa_nil))) pa_nil)))))
    (pss_one (ps_expr (pe_bm PySem.F.plainAttrs_list PySem.F.slot_list_append PySem.F.type_list_append mt_append (pv 9) (pa_cons (pe_tup (pa_cons (pv 11) (pa_cons (pe_call (ok__law_image (w := w) T) (hr.mono (by decide)) rfl T.g__law_image T.F__law_image.kp T.b__law_image .nil pass0 (pa_cons (pv 1) (pa_cons (pv 8) (pa_cons (pv 11) (pa_cons (pv 3) (pa_cons (pv 4) pa_nil)))))) pa_nil))) pa_nil))))))
    (pss_cons (ps_if (PW.pt (pw_and (pt_cmpR op_gt (pv 6) pe_int (nomark _)) (pw_and1 (pt_cmpR op_eq (pe_call (ok__law_next (w := w) T) (hr.mono (by decide)) rfl T.g__law_next T.F__law_next.kp T.b__law_next .nil pass0 (pa_cons (pv 1) (pa_cons pe_int pa_nil))) pe_int (nomark _)))))
    (pss_cons (ps_set (i := 12) sc_law.nd rfl (Or.inl rfl) (pe_call (ok__law_next (w := w) T) (hr.mono (by decide)) rfl T.g__law_next T.F__law_next.kp T.b__law_next .nil pass0 (pa_cons (pv 1) (pa_cons (pv 6) pa_nil))))
    (pss_cons (ps_set (i := 11) sc_law.nd rfl (Or.inl rfl) (pe_ix (show IxR _ (rIxT K) from ix_tup) (pe_ix (show IxR _ (rIxL K) from ix_list) (pv 9) (pv 12) (fun _ _ => rfl)) pe_int (fun _ _ => rfl)))
    (pss_cons (ps_set (i := 13) sc_law.nd rfl (Or.inl rfl) (pe_ix (show IxR _ (rIxT K) from ix_tup) (pe_ix (show IxR _ (rIxL K) from ix_list) (pv 9) (pv 12) (fun _ _ => rfl)) pe_int (fun _ _ => rfl)))
    (pss_cons (ps_set (i := 14) sc_law.nd rfl (Or.inl rfl) (pe_call (ok__law_next (w := w) T) (hr.mono (by decide)) rfl T.g__law_next T.F__law_next.kp T.b__law_next .nil pass0 (pa_cons (pv 1) (pa_cons (pe_op op_add (pe_callB call_len_str (by rfl) T.n_len bt_len (pa_cons (pv 11) pa_nil)) pe_int) pa_nil))))
    (pss_one (ps_if (pt_cmpR op_lt (pv 14) (pe_callB call_len_str (by rfl) T.n_len bt_len (pa_cons (pv 11) pa_nil)) (nomark _))
    (pss_one (ps_asg (pe_tup (pa_cons (pv 11) (pa_cons (pe_op op_add_str (pe_op op_add_str (pe_slice sl_str (pv 13) po_none (po_some (pv 14))) (pe_ix ix_str (pv 3) (pe_call (ok__law_next (w := w) T) (hr.mono (by decide)) rfl T.g__law_next T.F__law_next.kp T.b__law_next .nil pass0 (pa_cons (pv 1) (pa_cons (pe_callB call_len_str (by rfl) T.n_len bt_len (pa_cons (pv 3) pa_nil)) pa_nil))) (fun _ _ => rfl))) (pe_slice sl_str (pv 13) (po_some (pe_op op_add (pv 14) pe_int)) po_none)) pa_nil))) (pg_sub (pv 9) (pv 12) set_list)))
    pss_nil))))))
    pss_nil)
    (pss_cons (ps_if (PW.pt (pw_and (pt_cmpR op_gt (pv 6) pe_int (nomark _)) (pw_and1 (pt_cmpR op_eq (pe_call (ok__law_next (w := w) T) (hr.mono (by decide)) rfl T.g__law_next T.F__law_next.kp T.b__law_next .nil pass0 (pa_cons (pv 1) (pa_cons pe_int pa_nil))) pe_int (nomark _)))))
    (pss_cons (ps_expr (pe_call (ok__law_spoil (w := w) T) (hr.mono (by decide)) rfl T.g__law_spoil T.F__law_spoil.kp T.b__law_spoil .nil pass0 (pa_cons (pv 1) (pa_cons (pv 9) (pa_cons (pv 2) (pa_cons (pv 3) pa_nil))))))
    (pss_one (ps_if (pt_cmpR op_eq (pe_call (ok__law_next (w := w) T) (hr.mono (by decide)) rfl T.g__law_next T.F__law_next.kp T.b__law_next .nil pass0 (pa_cons (pv 1) (pa_cons pe_int pa_nil))) pe_int (nomark _))
    (pss_one (ps_expr (pe_call (ok__law_spoil (w := w) T) (hr.mono (by decide)) rfl T.g__law_spoil T.F__law_spoil.kp T.b__law_spoil .nil pass0 (pa_cons (pv 1) (pa_cons (pv 9) (pa_cons (pv 2) (pa_cons (pv 3) pa_nil)))))))
    pss_nil)))
    pss_nil)
    (pss_cons (ps_set (i := 15) sc_law.nd rfl (Or.inl rfl) (pe_callTy (show CallR _ _ (qList K) from call_list_of) (by rfl) T.n_list bt_list (pa_cons (pv 9) pa_nil)))
    (pss_cons (ps_set (i := 16) sc_law.nd rfl (Or.inl rfl) (pe_call (ok__law_first_bad (w := w) T) (hr.mono (by decide)) rfl T.g__law_first_bad T.F__law_first_bad.kp T.b__law_first_bad .nil pass0 (pa_cons (pv 9) (pa_cons (pv 2) (pa_cons (pv 3) pa_nil)))))
    (pss_cons (ps_if (pt_cmpR op_notN (pv 16) pe_non (nomark _))
    (pss_one (ps_ret (pe_and (pe_call (ok__law_refused (w := w) T) (hr.mono (by decide)) rfl T.g__law_refused T.F__law_refused.kp T.b__law_refused .nil pass0 (pa_cons (pv 2) (pa_cons (pv 3) (pa_cons (pv 5) (pa_cons (pv 15) (pa_cons (pv 16) pa_nil)))))) (pe_one (pe_cmpR (op_eqD hr.units) (pv 15) (pv 9) (nomark _))))))
    pss_nil)
    (pss_cons (ps_setLc (i := 17) (own := [("k", 10)]) (g := gName 10) (tt := tYes) rfl sc_law.nd rfl rfl (sw_true rfl rfl rfl (by decide +kernel)) (pi_range1 (by rfl) T.n_range (pa_cons pe_int pa_nil)) (blkOk_by (N := ["script", "state", "letters", "images", "hidden", "size", "many", "longest", "known", "pairs", "k", "word", "at", "image", "where", "given", "bad", "more", "answer", "table"]) (sc := defScope s_law) (by decide +kernel)) (fun _ _ _ _ _ => (pg_name (i := 10) sc_law.nd rfl (Or.inl rfl))) (fun _ _ _ _ _ => pts_nil) (fun _ _ _ _ _ => (pe_call (ok__law_word (w := w) T) (hr.mono (by decide)) rfl T.g__law_word T.F__law_word.kp T.b__law_word .nil pass0 (pa_cons (pv 1) (pa_cons (pv 2) (pa_cons (pv 10) pa_nil))))))
    (pss_cons (ps_set (i := 18) sc_law.nd rfl (Or.inl rfl) (pe_callS (ok_fit_turner (w := w) T) (hr.mono (by decide)) rfl T.g_fit_turner T.F_fit_turner.kp T.b_fit_turner passX0 (pa_cons (pv 2) (pa_cons (pv 3) (pa_cons (pv 5) (pa_cons (pv 15) pa_nil))))))
    (pss_cons (ps_if (PW.pt (pw_or (pt_cmpR (op_neD hr.units) (pv 15) (pv 9) (nomark _)) (pw_or (pt_not (pt_val (pe_callB call_isi (by rfl) T.n_isinstance bt_isinstance (pa_cons (pv 18) (pa_cons (pe_bltn (v := .ty "tuple") (by rfl) T.n_tuple bt_tuple rfl) pa_nil))))) (pw_or1 (pt_cmpR op_lt (pe_callB (show CallR _ _ (qLen K) from call_len_seq) (by rfl) T.n_len bt_len (pa_cons (pv 18) pa_nil)) pe_int (nomark _))))))
    (pss_one (ps_ret pe_bl))
    pss_nil)
    (pss_cons (ps_set (i := 19) sc_law.nd rfl (Or.inl rfl) (pe_call (ok__law_table (w := w) T) (hr.mono (by decide)) rfl T.g__law_table T.F__law_table.kp T.b__law_table .nil pass0 (pa_cons (pv 9) (pa_cons (pv 5) pa_nil))))
    (pss_cons (ps_if (pt_cmpR op_isN (pv 19) pe_non (nomark _))
    (pss_one (ps_ret (pe_and (pe_cmpR op_eq (pe_ix (show IxR _ (rIxT K) from ix_tup) (pv 18) pe_int (fun _ _ => rfl)) pe_str (nomark _)) (pe_one (pe_call (ok__law_clash (w := w) T) (hr.mono (by decide)) rfl T.g__law_clash T.F__law_clash.kp T.b__law_clash .nil pass0 (pa_cons (pv 9) (pa_cons (pv 5) (pa_cons (pv 18) pa_nil))))))))
    pss_nil)
    (pss_cons (ps_if (PW.pt (pw_or (pt_cmpR op_ne (pe_ix (show IxR _ (rIxT K) from ix_tup) (pv 18) pe_int (fun _ _ => rfl)) pe_str (nomark _)) (pw_or1 (pt_cmpR op_ne (pe_callB (show CallR _ _ (qLen K) from call_len_seq) (by rfl) T.n_len bt_len (pa_cons (pv 18) pa_nil)) pe_int (nomark _)))))
    (pss_one (ps_ret pe_bl))
    pss_nil)
    (pss_one (ps_ret (pe_call (ok__law_good_turner (w := w) T) (hr.mono (by decide)) rfl T.g__law_good_turner T.F__law_good_turner.kp T.b__law_good_turner .nil pass0 (pa_cons (pe_ix (show IxR _ (rIxT K) from ix_tup) (pv 18) pe_int (fun _ _ => rfl)) (pa_cons (pv 2) (pa_cons (pv 3) (pa_cons (pv 5) (pa_cons (pv 19) (pa_cons (pv 9) (pa_cons (pv 17) pa_nil))))))))))))))))))))))))))))))))),
      ?_⟩
    refine x_start (σ := [some (.ref a), none, none, none, none, none, none, none, none, none, none, none, none, none, none, none, none, none, none, none]) rfl ?_
    walk_at "sx"
    refine ⟨a, ns, rfl, hS, hn, fun p c H1 hp e1 st1 => ?_⟩
    walk_at "sx"
    refine x_newLg (by simp) fun g2 H2 f2 e2 h2 => ?_
    walk_at "sx"
    refine ⟨p, c, _, rfl, st1.ex e2, by decide, by decide, fun v H3 v0 v1 st3 e3 => ?_⟩
    obtain ⟨b, rfl⟩ : ∃ b : Nat, v = (b : Int) := ⟨v.toNat, by omega⟩
    obtain ⟨lt, hlt, g1, l1, l2, lc⟩ := pick_ok lets_ok (b := b) (by show b < 6; omega)
    refine x_ixL (.inl (.inl (e3 _ _ (st1.nn f2) h2))) (atI_nat hlt) ?_
    clear hlt h2 e2 f2
    walk_at "sx"
    refine x_newLg (by simp) fun g4 H4 f4 e4 h4 => ?_
    walk_at "sx"
    refine ⟨p, c, _, rfl, st3.ex e4, by decide, by decide, fun v H5 v0 v1 st5 e5 => ?_⟩
    obtain ⟨b2, rfl⟩ : ∃ b : Nat, v = (b : Int) := ⟨v.toNat, by omega⟩
    obtain ⟨im, him, i1, m1, m2, mc⟩ := pick_ok imgs_ok (b := b2) (by show b2 < 6; omega)
    refine x_ixL (.inl (.inl (e5 _ _ (st3.nn f4) h4))) (atI_nat him) ?_
    clear him h4 e4 f4
    walk_at "sx"
    refine ⟨p, c, _, rfl, st5, by decide, by decide, fun v H6 v0 v1 st6 e6 => ?_⟩
    obtain ⟨hid, hh, hh1, hh2⟩ : ∃ m : Nat, 1 + v = (m : Int) ∧ 1 ≤ m ∧ m ≤ 4 := ⟨(1 + v).toNat, by omega, by omega, by omega⟩
    walk_at "sx"
    rw [hh]
    refine ⟨p, c, _, rfl, st6, by decide, by decide, fun v H7 v0 v1 st7 e7 => ?_⟩
    obtain ⟨sz, hs, hs1, hs2⟩ : ∃ m : Nat, 1 + v = (m : Int) ∧ 1 ≤ m ∧ m ≤ 4 := ⟨(1 + v).toNat, by omega, by omega, by omega⟩
    refine x_I0 ?_
    rw [hs]
    walk_at "sxn"
    with_reducible refine x_seqK (fun σ H => ∃ sz : Nat, sz ≤ 7 ∧ StOk H p c ∧ σ = [some (.ref a), some (.ref p), some (S lt), some (S im), some (.int (hid : Nat)), some (.int (sz : Nat)), none, none, none, none, none, none, none, none, none, none, none, none, none, none]) ?tl1 (fun b' hb' => ?_)
    rotate_left
    · walk_at "sx"
      refine ⟨p, c, _, rfl, st7, by decide, by decide, fun v H8 v0 v1 st8 e8 => ?_⟩
      walk_at "sx"
      refine x_iteD (fun c1 => ?_) (fun c1 => ?_)
      · walk_at "sx"
        refine ⟨p, c, _, rfl, st8, by decide, by decide, fun v H9 v0 v1 st9 e9 => ?_⟩
        walk_at "sx"
        exact hb' _ _ ⟨(5 + v).toNat, by omega, st9, by rw [show (((5 + v).toNat : Nat) : Int) = 5 + v by omega]⟩
      · walk_at "sx"
        exact hb' _ _ ⟨sz, by omega, st8, rfl⟩
    clear hs hs1 hs2 sz
    rintro σ H8 ⟨sz, hs, st8, rfl⟩
    walk_at "sx"
    refine ⟨p, c, _, rfl, st8, by decide, by decide, fun v H9 v0 v1 st9 e9 => ?_⟩
    obtain ⟨mn, rfl⟩ : ∃ m : Nat, v = (m : Int) := ⟨v.toNat, by omega⟩
    walk_at "sxn"
    refine x_seq ?_
    walk_at "sxn"
    refine x_c ?_
    walk_at "sxn"
    with_reducible refine x_seqK (fun σ H => ∃ mn lg : Nat, mn ≤ 30 ∧ lg ≤ 24 ∧ StOk H p c ∧ σ = [some (.ref a), some (.ref p), some (S lt), some (S im), some (.int (hid : Nat)), some (.int (sz : Nat)), some (.int (mn : Nat)), some (.int (lg : Nat)), none, none, none, none, none, none, none, none, none, none, none, none]) ?tl2 (fun b' hb' => ?_)
    rotate_left
    · walk_at "sx"
      refine ⟨p, c, _, rfl, st9, by decide, by decide, fun v H8 v0 v1 st8 e8 => ?_⟩
      walk_at "sx"
      refine x_iteD (fun c1 => ?_) (fun c1 => ?_)
      · walk_at "sx"
        refine ⟨p, c, _, rfl, st8, by decide, by decide, fun v H9 v0 v1 st9 e9 => ?_⟩
        walk_at "sx"
        exact hb' _ _ ⟨(20 + v).toNat, 24, by omega, by omega, st9, by rw [show (((20 + v).toNat : Nat) : Int) = 20 + v by omega]; rfl⟩
      · walk_at "sx"
        exact hb' _ _ ⟨mn, 6, by omega, by omega, st8, rfl⟩
    clear v1 v0 st9 e9 mn
    rintro σ H10 ⟨mn, lg, hmn, hlg, st10, rfl⟩
    walk_at "sx"
    refine x_dnew fun kd H11 f11 e11 h11 => ?_
    walk_at "sx"
    refine x_newLg (by simp) fun pq H12 f12 e12 h12 => ?_
    walk_at "sxn"
    have st12 := (st10.ex e11).ex e12
    have hd12 := e12 _ _ h11
    have hli : 1 ≤ im.length := m1
    have hi0 : im ≠ [] := fun z => by rw [z] at m1; cases m1
    have hl0 : lt ≠ [] := fun z => by rw [z] at l1; cases l1
    clear e11 h11 f11 f12 e12 st10
    refine x_seq ?_
    walk_at "sx"
    rw [Int.toNat_natCast]
    refine for_R (fun i σ H => ∃ (P : List PT) (kvs : List (Key × V)) (o10 o11 : Option V), σ = [some (.ref a), some (.ref p), some (S lt), some (S im), some (.int (hid : Nat)), some (.int (sz : Nat)), some (.int (mn : Nat)), some (.int (lg : Nat)), some (.ref kd), some (.ref pq), o10, o11, none, none, none, none, none, none, none, none] ∧
      StOk H p c ∧ PairsIn H pq P ∧ P.length = i ∧ Lens 24 P ∧ H kd = some (.dK kvs) ∧ Kn im kvs ∧ kvs.length ≤ i * 24) ⟨[], [], _, _, rfl, st12, ⟨[], rfl, h12, fun _ h => nomatch h⟩, rfl, (fun _ h => nomatch h), hd12, (fun _ _ h => nomatch h), Nat.zero_le _⟩ ?_ ?_
    · rintro i σ H13 hi ⟨P0, kvs, o10, o11, rfl, st13, hq13, hP, hL, hd13, hkn, hkl⟩
      walk_at "sx"
      refine ⟨p, c, _, rfl, st13, by omega, by omega, fun v H14 v0 v1 st14 e14 => ?_⟩
      obtain ⟨wl, rfl⟩ : ∃ m : Nat, v = (m : Int) := ⟨v.toNat, by omega⟩
      walk_at "sx"
      refine ⟨p, c, lt, wl, rfl, st14, hl0, by omega, by omega, fun wd H15 hwl hwm st15 e15 => ?_⟩
      have e1315 := Ex2.trans (Ex2.ofB (d := kd) e14) (Ex2.ofB e15)
      have nkp : kd ≠ p := fun z => by
        obtain ⟨_, ⟨_, _, _, h⟩, _⟩ := st13
        rw [← z, hd13] at h
        cases h
      have hd15 := e15 _ _ nkp (e14 _ _ nkp hd13)
      have hq15 := hq13.two st13 hd13 e1315
      obtain ⟨xs, hxs⟩ := hq15.at
      have hxl := hq15.len hxs
      walk_at "sx"
      refine ⟨p, c, kd, wd, im, hid, kvs, rfl, st15, hd15, hkn, by omega, hi0, by omega, by omega, by omega, fun l kvs' H16 hll hlm hkn' hkl' hd16 st16 e16 => ?_⟩
      have hq16 := hq15.two st15 hd15 e16
      walk_at "sx"
      refine x_newTg (by simp) fun t H17 f17 e17 h17 => ?_
      have hq17 := hq16.ex e17
      obtain ⟨ys, hys⟩ := hq17.at
      have hyl := hq17.len hys
      walk_at "sx"
      refine x_appendg hys (by rw [sizeLine_eq]; omega) fun H18 h18 k18 => ?_
      walk_at "sx"
      have hq18 : PairsIn H18 pq (P0 ++ [(wd, l)]) := hq17.snoc h17 (fun zs hz => by rw [hys] at hz; rw [h18]; injection Option.some.inj hz with hz; rw [hz]) k18
      refine ⟨P0 ++ [(wd, l)], kvs', _, _, rfl, (st16.ex e17).off (hq17.ns (st16.ex e17)) k18, hq18, by rw [List.length_append, hP]; rfl, fun x hx => ?_, ?_, hkn', by omega⟩
      · rcases List.mem_append.mp hx with m | m
        · exact hL x m
        · rw [List.mem_singleton.mp m]
          exact ⟨by show wd.length ≤ 24; omega, by show l.length ≤ 24; omega, fun y hy => (List.mem_append.mp hy).elim (fun h => lc y (hwm y h)) (fun h => mc y (hlm y h))⟩
      · have hd17 := e17 _ _ hd16
        rw [k18 kd (fun z => by rw [z, hys] at hd17; cases hd17)]
        exact hd17
    rintro σ H13 ⟨P0, kvs, o10, o11, rfl, st13, hq13, hP, hL, hd13, hkn, hkl⟩
    clear hd13 hkn hkl hd12 h12 st12
    have hat : ∀ (l : List Nat) (k : Nat), k < l.length → atI l (k : Nat) = some (l.getD k 0) := fun l k h => atI_nat (by rw [List.getD_eq_getElem?_getD, List.getElem?_eq_getElem h]; rfl)
    walk_at "sxn"
    with_reducible refine x_seqK (fun σ H => ∃ (P : List PT) (o10 o11 o12 o13 o14 : Option V), StOk H p c ∧ PairsIn H pq P ∧ P.length = mn ∧ Lens 25 P ∧ σ = [some (.ref a), some (.ref p), some (S lt), some (S im), some (.int (hid : Nat)), some (.int (sz : Nat)), some (.int (mn : Nat)), some (.int (lg : Nat)), some (.ref kd), some (.ref pq), o10, o11, o12, o13, o14, none, none, none, none, none]) ?tl3 (fun b' hb' => ?_)
    rotate_left
    · have hL5 : Lens 25 P0 := fun x hx => by
        have := hL x hx
        exact ⟨by omega, by omega, this.2.2⟩
      walk_at "sx"
      refine x_iteD (fun c0 => ?_) (fun c0 => ?_)
      rotate_left
      · walk_at "sx"
        exact hb' _ _ ⟨P0, _, _, _, _, _, st13, hq13, hP, hL5, rfl⟩
      walk_at "sx"
      refine ⟨p, c, _, rfl, st13, by decide, by decide, fun v H14 v0 v1 st14 e14 => ?_⟩
      have hq14 := hq13.b st13 e14
      walk_at "sx"
      refine x_iteD (fun c1 => ?_) (fun c1 => ?_)
      rotate_left
      · walk_at "sx"
        exact hb' _ _ ⟨P0, _, _, _, _, _, st14, hq14, hP, hL5, rfl⟩
      walk_at "sx"
      refine ⟨p, c, _, rfl, st14, by omega, by omega, fun v H15 w0 w1 st15 e15 => ?_⟩
      obtain ⟨i, rfl⟩ : ∃ i : Nat, v = (i : Int) := ⟨v.toNat, by omega⟩
      have hq15 := hq14.b st14 e15
      obtain ⟨as, has, hqa, hra⟩ := id hq15
      have hal : as.length = mn := by rw [← hP, ← has, List.length_map]
      have hi : i < as.length := by omega
      have hz1 : as[i]? = some as[i] := List.getElem?_eq_getElem hi
      have hzm : as[i] ∈ as := List.getElem_mem hi
      generalize as[i] = z at hz1 hzm
      have z1 : H15 z.1 = some (.tup [S z.2.1, S z.2.2]) := hra z hzm
      obtain ⟨zl1, zl2, zc⟩ := hL z.2 (by rw [← has]; exact List.mem_map.mpr ⟨z, hzm, rfl⟩)
      walk_at "sx"
      refine x_ixL (.inl (.inl hqa)) (v := .ref z.1) (atI_nat (by rw [List.getElem?_map, hz1]; rfl)) ?_
      walk_at "sx"
      refine x_ixL (.inl (.inl hqa)) (v := .ref z.1) (atI_nat (by rw [List.getElem?_map, hz1]; rfl)) ?_
      walk_at "sx"
      refine ⟨p, c, _, rfl, st15, by omega, by omega, fun t3 H16 t30 t31 st16 e16 => ?_⟩
      obtain ⟨wh, rfl⟩ : ∃ wh : Nat, t3 = (wh : Int) := ⟨t3.toNat, by omega⟩
      have hq16 := hq15.b st15 e16
      walk_at "sx"
      refine x_iteD (fun c2 => ?_) (fun c2 => ?_)
      rotate_left
      · walk_at "sx"
        exact hb' _ _ ⟨P0, _, _, _, _, _, st16, hq16, hP, hL5, rfl⟩
      walk_at "sx"
      rw [cutN_take]
      refine ⟨p, c, _, rfl, st16, by omega, by omega, fun t4 H17 t40 t41 st17 e17 => ?_⟩
      obtain ⟨j, rfl⟩ : ∃ j : Nat, t4 = (j : Int) := ⟨t4.toNat, by omega⟩
      have hq17 := hq16.b st16 e17
      refine x_ixS (by omega) (hat im j (by omega)) ?_
      have g1 : (z.2.2.take wh).length = min wh z.2.2.length := List.length_take
      have g2 : (z.2.2.drop (wh + 1)).length = z.2.2.length - (wh + 1) := List.length_drop
      refine x_addS (by rw [List.length_singleton]; omega) ?_
      walk_at "sx"
      rw [show ((wh : Int) + 1) = ((wh + 1 : Nat) : Int) by omega, cutN_drop]
      refine x_addS (by rw [List.length_append, List.length_singleton]; omega) ?_
      walk_at "sx"
      refine x_newTg (by simp) fun t6 H18 f18 e18 h18 => ?_
      have hq18 := hq17.ex e18
      obtain ⟨xs, hxs⟩ := hq18.at
      have hxl := hq18.len hxs
      walk_at "sx"
      refine x_setLg hxs (ixN_nat (by omega)) fun H19 h19 k19 => ?_
      have hq19 : PairsIn H19 pq (P0.set i (z.2.1, z.2.2.take wh ++ [im.getD j 0] ++ z.2.2.drop (wh + 1))) := hq18.set h18 (fun as' _ h => by
        rw [hxs] at h
        rw [h19]
        injection Option.some.inj h with h
        rw [h]) k19
      refine hb' _ _ ⟨_, _, _, _, _, _, (st17.ex e18).off (hq18.ns (st17.ex e18)) k19, hq19, by rw [List.length_set]; exact hP, fun x hx => ?_, rfl⟩
      rcases List.mem_or_eq_of_mem_set hx with mm | rfl
      · exact hL5 x mm
      · refine ⟨by show z.2.1.length ≤ 25; omega, by show (_ : List Nat).length ≤ 25; rw [List.length_append, List.length_append, List.length_singleton]; omega, fun y hy => ?_⟩
        have hy : y ∈ z.2.1 ++ (z.2.2.take wh ++ [im.getD j 0] ++ z.2.2.drop (wh + 1)) := hy
        simp only [List.mem_append, List.mem_singleton] at hy
        rcases hy with h | (h | h) | h
        · exact zc y (List.mem_append_left _ h)
        · exact zc y (List.mem_append_right _ (List.mem_of_mem_take h))
        · rw [h, List.getD_eq_getElem?_getD, List.getElem?_eq_getElem (show j < im.length by omega)]
          exact mc _ (List.getElem_mem _)
        · exact zc y (List.mem_append_right _ (List.mem_of_mem_drop h))
    rintro σ H20 ⟨P1, o10, o11, o12, o13, o14, st20, hq20, hP1, hL1, rfl⟩
    with_reducible refine x_seqK (fun σ H => ∃ (P : List PT) (o10 o11 o12 o13 o14 : Option V), StOk H p c ∧ PairsIn H pq P ∧ P.length = mn ∧ Lens 27 P ∧ σ = [some (.ref a), some (.ref p), some (S lt), some (S im), some (.int (hid : Nat)), some (.int (sz : Nat)), some (.int (mn : Nat)), some (.int (lg : Nat)), some (.ref kd), some (.ref pq), o10, o11, o12, o13, o14, none, none, none, none, none]) ?tl4 (fun b' hb' => ?_)
    rotate_left
    · have up : ∀ {m n : Nat} {P : List PT}, m ≤ n → Lens m P → Lens n P := fun {m n P} h hl x hx => by
        have := hl x hx
        exact ⟨by omega, by omega, this.2.2⟩
      walk_at "sx"
      refine x_iteD (fun c0 => ?_) (fun c0 => ?_)
      rotate_left
      · walk_at "sx"
        exact hb' _ _ ⟨P1, _, _, _, _, _, st20, hq20, hP1, up (by decide) hL1, rfl⟩
      walk_at "sx"
      refine ⟨p, c, _, rfl, st20, by decide, by decide, fun v H21 v0 v1 st21 e21 => ?_⟩
      have hq21 := hq20.b st20 e21
      walk_at "sx"
      refine x_iteD (fun c1 => ?_) (fun c1 => ?_)
      rotate_left
      · walk_at "sx"
        exact hb' _ _ ⟨P1, _, _, _, _, _, st21, hq21, hP1, up (by decide) hL1, rfl⟩
      walk_at "sx"
      refine ⟨p, c, pq, lt, im, P1, 25, rfl, st21, hq21, (fun z => by rw [z] at hP1; simp at hP1; omega), by omega, hL1, by decide, hi0, by omega, mc, fun _ P2 H22 hP2 hL2 hq22 st22 e22 => ?_⟩
      walk_at "sx"
      refine ⟨p, c, _, rfl, st22, by decide, by decide, fun v H23 v0 v1 st23 e23 => ?_⟩
      have hq23 := hq22.b st22 e23
      walk_at "sx"
      refine x_iteD (fun c2 => ?_) (fun c2 => ?_)
      · walk_at "sx"
        refine ⟨p, c, pq, lt, im, P2, 26, rfl, st23, hq23, (fun z => by rw [z] at hP2; simp at hP2; omega), by omega, hL2, by decide, hi0, by omega, mc, fun _ P3 H24 hP3 hL3 hq24 st24 e24 => ?_⟩
        walk_at "sx"
        exact hb' _ _ ⟨P3, _, _, _, _, _, st24, hq24, by omega, hL3, rfl⟩
      · walk_at "sx"
        exact hb' _ _ ⟨P2, _, _, _, _, _, st23, hq23, by omega, up (by decide) hL2, rfl⟩
    clear hq20 st20 hL1 hP1 o10 o11 o12 o13 o14
    rintro σ H20 ⟨P1, o10, o11, o12, o13, o14, st20, hq20, hP1, hL1, rfl⟩
    have hB : PBnd P1 := ⟨by omega, fun x hx => by have := hL1 x hx; omega⟩
    obtain ⟨xs, hxs⟩ := hq20.at
    walk_at "sx"
    refine x_listLg hxs fun gv H21 f21 e21 h21 => ?_
    have hq21 := hq20.ex e21
    have hg21 := hq20.copy hxs e21 h21
    have st21 := st20.ex e21
    walk_at "sx"
    refine ⟨pq, lt, im, P1, rfl, hq21, hB, by omega, by omega, fun hb H22 e22 => ?_, fun bd hb r H22 e22 hr22 => ?_⟩
    rotate_left
    · walk_at "sx"
      rw [if_pos (by simp)]
      walk_at "sx"
      refine ⟨gv, r, lt, im, sz, P1, bd, rfl, hg21.ex e22, g1, i1, by omega, by omega, by omega, hB, hb, hr22, fun H23 e23 => ?_⟩
      refine ⟨_, rfl, ?_⟩
      rw [if_pos rfl]
      walk_at "sx"
      refine x_eqD ((hg21.ex e22).ex e23).dp ((hq21.ex e22).ex e23).dp (sh_pairs hL1) (ev_pairs P1) ?_
      exact k _
    have hlen := fun p hp2 => (pGo_none hb p hp2).2
    have hq22 := hq21.ex e22
    have hg22 := hg21.ex e22
    have st22 := st21.ex e22
    clear st21 hg21 hq21 st20 hq20 hxs h21
    walk_at "sx"
    rw [if_neg (by simp)]
    walk_at "sx"
    refine lcA_R (fun L u acc H9 => ∃ U : List (List Nat), acc = U.map S ∧ (∀ w ∈ U, w.length ≤ 5 ∧ ∀ x ∈ w, x ∈ lt) ∧ StOk H9 p c ∧ ExB p H22 H9) (by decide) (fun L hL => ⟨[], rfl, fun _ h => (nomatch h), st22.ex ((Ex.refl _).new hL), ((Ex.refl _).new hL).b⟩) ?_ ?_
    · rintro L u y r acc H9 hL el ⟨U, rfl, hU, st9, e9⟩ hL9 hlen R1 R2 h1 h2
      have nLp : L ≠ p := by obtain ⟨o, h⟩ := st22.p; exact (ne_of_none h hL).symm
      have nLc : L ≠ c := by obtain ⟨o, h⟩ := st22.c; exact (ne_of_none h hL).symm
      have hy5 : y < 5 := by
        have hm : y ∈ List.range (Int.toNat 5) := by rw [el]; simp
        have := List.mem_range.mp hm
        exact this
      walk_at "sx"
      refine ⟨rfl, ?_⟩
      walk_at "sx"
      rw [Int.zero_add]
      refine ⟨p, c, lt, y, rfl, st9, hl0, by omega, by omega, fun wd H10 hwl hwm st10 e10 => ?_⟩
      refine h1 _ _ (e10 _ _ nLp hL9) ⟨U ++ [wd], by simp, fun x hx => ?_, st10.mutf nLp.symm nLc.symm, (e9.trans e10).mutf hL⟩
      rcases List.mem_append.mp hx with g | g
      · exact hU x g
      · rw [List.mem_singleton.mp g]; exact ⟨by omega, hwm⟩
    rintro L acc H23 hL ⟨U, rfl, hU, st23, e23⟩ hL23
    have hq23 := hq22.b st22 e23
    have hg23 := hg22.b st22 e23
    clear hq22 hg22 st22 e23
    walk_at "sx"
    have hm23 : H23 L = some (.lst (U.map S)) := hL23
    have hU2 : ∀ u ∈ U, u.length ≤ 1000 ∧ bwGo lt 0 u = none := fun u hu => by
      obtain ⟨h1, h2⟩ := hU u hu
      exact ⟨by omega, bwGo_ok h2⟩
    have hbp := fun p hp2 => pGo_none hb p hp2
    have e0 : errP A E0 H23 (pGo lt im 0 P1) := by
      rw [hb]
      trivial
    have hlc : lt.length ≤ 1000 := by omega
    have hic : im.length ≤ 1000 := by omega
    have hsc : sz ≤ 1000 := by omega
    refine ⟨gv, lt, im, sz, P1, rfl, hg23, g1, i1, hlc, hic, hsc, hB, fun _ hc r t H24 e24 hr ht => ?_, fun _ hc r r1 r2 i u j b v H24 e24 hr hr1 hr2 p1 p2 hs => ?_, e0⟩
    · have hq24 := hq23.ex e24
      have hg24 := hg23.ex e24
      have hm24 := e24 _ _ hm23
      clear hq23 hg23 hm23 hL23 st23 e24
      walk_at "sx"
      refine x_neD hg24.dp hq24.dp (sh_pairs hL1) (ev_pairs P1) ?_
      walk_at "sx"
      refine x_isiT hr rfl ?_
      walk_at "sx"
      refine x_lenT (.inl (.inl hr)) ?_
      walk_at "sx"
      rw [if_neg (by simp)]
      walk_at "sx"
      refine ⟨pq, sz, P1, rfl, hq24, hB, hsc, hlen, fun h => (by rw [hc] at h; cases h), fun _ d H25 e25 hd => ?_⟩
      have hq25 := hq24.ex e25
      have hr25 := e25 _ _ hr
      have ht25 := ht.ex e25
      have hm25 := e25 _ _ hm24
      walk_at "sx"
      rw [if_neg (by simp)]
      walk_at "sx"
      rw [if_neg (by simp [fitsS])]
      walk_at "sx"
      refine x_lenT (.inl (.inl hr25)) ?_
      walk_at "sx"
      rw [if_neg (by simp)]
      walk_at "sx"
      exact ⟨t, d, pq, L, lt, im, sz, P1, ents sz P1, U, rfl, ht25, rfl, hd, hq25, hB, hlc, hic, hsc, hbp, fun_of_clash (ents sz P1) [] (fun _ h => nomatch h) hc, hm25, hU2, fun H' _ => k H'⟩
    · have hq24 := hq23.ex e24
      have hg24 := hg23.ex e24
      clear hq23 hg23 hm23 hL23 st23 e24
      walk_at "sx"
      refine x_neD hg24.dp hq24.dp (sh_pairs hL1) (ev_pairs P1) ?_
      walk_at "sx"
      refine x_isiT hr rfl ?_
      walk_at "sx"
      refine x_lenT (.inl (.inl hr)) ?_
      walk_at "sx"
      rw [if_neg (by simp)]
      walk_at "sx"
      refine ⟨pq, sz, P1, rfl, hq24, hB, hsc, hlen, fun _ H25 e25 => ?_, fun h => by rw [hc] at h; cases h⟩
      have hq25 := hq24.ex e25
      have hr25 := e25 _ _ hr
      have hr1' := e25 _ _ hr1
      have hr2' := e25 _ _ hr2
      walk_at "sx"
      rw [if_pos (by simp)]
      walk_at "sx"
      rw [if_pos (by simp [clashS])]
      walk_at "sx"
      exact ⟨pq, r, r1, r2, sz, P1, v, i, u, j, b, rfl, hq25, hB, hsc, hlen, hr25, hr1', hr2', p1, p2, hs, k _⟩

end TY

namespace TY
open PySem PyProof.Rows PySem.Spec L2 L2H
local macro_rules | `(tactic| walk_at "tylit") => `(tactic| first | exact lit_0 | exact lit_1 | exact lit_2 | exact lit_3 | exact lit_4 | exact lit_5 | exact lit_6 | exact lit_7 | exact lit_8 | exact lit_9 | exact lit_10 | exact lit_11 | exact lit_12 | exact lit_13 | exact lit_14 | exact lit_15 | exact lit_16 | exact lit_17 | exact lit_18 | exact lit_19 | exact lit_20 | exact lit_21 | exact lit_22)
/-! the word: one step; all steps -/
local macro_rules | `(tactic| walk_at "tysq") => `(tactic| first | assumption | exact Or.inl (Or.inl (by assumption)) | exact Or.inl (Or.inl upd_same))
local macro_rules | `(tactic| walk_at "tysqT") => `(tactic| first | assumption | exact Or.inl (Or.inl (by assumption)) | exact Or.inl (Or.inl upd_same))
local macro_rules | `(tactic| walk_at "tyhp") => `(tactic| first | assumption | exact upd_same)
local macro_rules | `(tactic| walk_at "tyc") => `(tactic| first | decide | assumption | omega | (simp only [List.length_map, List.length_append, List.length_cons, List.length_nil]; omega) | exact Or.inl ⟨by omega, by omega⟩ | exact ⟨by omega, by omega⟩ | exact ⟨by decide, by decide⟩)
local macro_rules | `(tactic| walk_at "sx1") => `(tactic| first
  | with_reducible refine x_seq ?_ | with_reducible refine x_next ?_ | with_reducible refine x_Dnx ?_ | with_reducible refine x_Drt ?_
  | with_reducible refine x_asg ?_ | ((with_reducible refine x_gname ?_); try dsimp only [List.set_cons_zero, List.set_cons_succ]) | with_reducible refine x_drop ?_ | with_reducible refine x_ret ?_
  | with_reducible refine x_ifS ?_ | with_reducible refine x_ifE ?_ | ((with_reducible apply x_var); (first | rfl | assumption)) | ((with_reducible apply x_cStr); with_reducible walk_at "tylit") | with_reducible refine x_c ?_
  | with_reducible refine l_addS ?_ | with_reducible refine l_inSign ?_ | with_reducible refine l_niSign ?_ | with_reducible refine l_repS ?_ | with_reducible refine x_then ?_ | with_reducible refine x_iTup ?_ | ((with_reducible apply x_gTup); (walk_at "tysqT"); rfl) | with_reducible refine x_gC ?_ | with_reducible refine x_gN ?_ | with_reducible refine x_nget ?_ | with_reducible refine x_nin ?_ | with_reducible refine x_nput ?_ | with_reducible refine x_nget2 ?_ | with_reducible refine x_inO ?_ | with_reducible refine x_callOA ?_ | with_reducible refine x_setd ?_ | with_reducible refine l_dictD ?_ | with_reducible refine x_din ?_ | with_reducible refine x_dnotin ?_ | with_reducible refine l_repA ?_ | with_reducible refine l_leS ?_ | with_reducible refine l_isN ?_ | with_reducible refine l_notN ?_
  | with_reducible refine x_op ?_ | with_reducible refine x_un ?_ | with_reducible refine x_I0 ?_ | ((with_reducible apply x_I); walk_at "tyc") | with_reducible refine x_U ?_
  | with_reducible refine x_eqI ?_ | with_reducible refine x_neI ?_ | with_reducible refine x_eqOne ?_ | with_reducible refine x_eqSt ?_ | with_reducible refine x_neSt ?_ | with_reducible refine x_eqS ?_ | with_reducible refine x_neS ?_
  | with_reducible refine x_test ?_ | with_reducible refine x_tB ?_ | with_reducible refine x_bl ?_ | with_reducible refine x_bl2 ?_
  | with_reducible refine x_yes ?_ | with_reducible refine x_and ?_ | with_reducible refine x_or ?_ | with_reducible refine x_not ?_ | with_reducible refine x_andV ?_ | with_reducible refine x_orV ?_ | with_reducible refine x_notV ?_
  | with_reducible refine x_nil ?_ | with_reducible refine x_cons ?_ | with_reducible refine l_len ?_ | with_reducible refine l_lenS ?_ | with_reducible refine l_int1 ?_ | with_reducible refine l_abs ?_ | with_reducible refine l_max2 ?_ | with_reducible refine l_min2 ?_ | with_reducible refine l_list ?_ | with_reducible refine l_listD ?_ | with_reducible refine l_strI ?_ | with_reducible refine x_cb ?_ | with_reducible refine x_call ?_ | with_reducible refine x_callS ?_ | with_reducible refine x_callE ?_
  | ((with_reducible apply x_aug); (first | rfl | assumption)) | with_reducible refine x_ipI ?_ | with_reducible refine x_sl ?_ | with_reducible refine x_nopart ?_ | with_reducible refine x_part ?_ | with_reducible refine x_int ?_
  | with_reducible refine x_gsub ?_ | with_reducible refine x_bm ?_ | with_reducible refine x_bm0 ?_ | with_reducible refine l_upper ?_ | with_reducible refine l_join ?_ | with_reducible refine l_index ?_ | with_reducible refine x_m0 ?_ | with_reducible refine x_m1 ?_ | with_reducible refine x_strA ?_ | with_reducible refine x_augS ?_
  | ((with_reducible apply x_tyL); walk_at "tysq")
  | ((with_reducible apply x_addS); walk_at "tyc") | with_reducible refine x_inSign ?_ | with_reducible refine x_niSign ?_ | with_reducible refine x_leS ?_ | with_reducible refine x_isN ?_ | with_reducible refine x_notN ?_ | with_reducible refine x_max2 ?_ | with_reducible refine x_min2 ?_
  | ((with_reducible apply x_lenS); walk_at "tyc") | ((with_reducible apply x_lenL); walk_at "tysq")
  | with_reducible refine x_int1 ?_ | with_reducible refine x_abs ?_
  | ((with_reducible apply x_ixL); walk_at "tysq"; rfl) | ((with_reducible apply x_setL); walk_at "tyhp"; rfl)
  | with_reducible refine x_lc ?_ | with_reducible refine x_for ?_ | with_reducible refine x_iStr ?_ | with_reducible refine x_qStr ?_ | with_reducible refine x_iLst ?_ | ((with_reducible apply x_qLst); walk_at "tysq")
  | with_reducible refine x_iRng1 ?_ | with_reducible refine x_iRng2 ?_ | ((with_reducible apply x_qRng1); walk_at "tyc") | ((with_reducible apply x_qRng2); walk_at "tyc") | with_reducible refine x_iEnS ?_ | with_reducible refine x_qEnS ?_
  | ((with_reducible apply x_slS); walk_at "tyc")
  | with_reducible refine x_lst ?_ | with_reducible refine x_tup ?_
  | with_reducible refine x_listZip ?_ | with_reducible refine x_iRev ?_ | ((with_reducible apply x_qRev); walk_at "tysq") | with_reducible refine x_dget ?_ | with_reducible refine x_dput ?_ | with_reducible refine x_tern ?_ | with_reducible refine x_replA ?_ | with_reducible refine x_replC ?_ | with_reducible refine x_sl3 ?_ | with_reducible refine x_iEnL ?_ | with_reducible refine x_lc2 ?_ | with_reducible refine x_ckw ?_ | with_reducible refine x_eqB ?_ | with_reducible refine x_fld ?_ | with_reducible refine x_sfld ?_ | with_reducible refine x_makeS ?_ | with_reducible refine x_methA ?_ | with_reducible refine x_fmt ?_ | with_reducible refine x_js0 ?_ | with_reducible refine x_js ?_ | ((with_reducible apply x_qJs); walk_at "tyc") | with_reducible refine x_jsE ?_ | with_reducible refine x_mkO ?_ | ((with_reducible apply x_ixT); walk_at "tysqT"; rfl)
  | with_reducible refine x_iteT ?_ | with_reducible refine x_iteF ?_ | with_reducible refine x_iteNT' ?_ | with_reducible refine x_iteNF' ?_)
local macro_rules | `(tactic| walk_at "sx") => `(tactic| repeat walk_at "sx1")
local macro_rules | `(tactic| walk_at "sxi") => `(tactic| repeat (first
  | with_reducible refine x_seq ?_ | with_reducible refine x_next ?_ | with_reducible refine x_Dnx ?_ | with_reducible refine x_Drt ?_ | with_reducible refine x_asg ?_ | ((with_reducible refine x_gname ?_); try dsimp only [List.set_cons_zero, List.set_cons_succ]) | with_reducible refine x_drop ?_ | with_reducible refine x_ifS ?_))
local macro_rules | `(tactic| walk_at "sxn") => `(tactic| repeat (first
  | with_reducible refine x_next ?_ | with_reducible refine x_Dnx ?_ | with_reducible refine x_Drt ?_ | with_reducible refine x_asg ?_ | ((with_reducible refine x_gname ?_); try dsimp only [List.set_cons_zero, List.set_cons_succ]) | with_reducible refine x_drop ?_))
/-! what the top has left, each a fact that is found; the end -/
theorem top_mk {w : World} {K : PySem.W.Frag} {h : Heap} {mg : Str → Option Value} {fa : Addr} (X : K.In h) (G : h.Ns mainGlobals mg) (hfa : mg "law" = some (.ref fa))
    {c_LanguageError c_BadLetters c_BadWord c_BadText c_Turner a_BadWord___init__ cc_BadWord cda_BadWord a_BadText___init__ cc_BadText cda_BadText a_check_letters a_check_word a_view_at a_Turner___init__ a_Turner___call__ a_check_pairs a_first_clash a_fit_turner a__law_start a__law_next a__law_integer a__law_word a__law_view a__law_image a__law_table a__law_place a__law_clash a__law_due_image a__law_good_turner a__law_spoil a__law_first_bad a__law_refused a_law N_BadWord N_BadText : Addr} {od_BadWord___init__ an_BadWord___init__ od_BadText___init__ an_BadText___init__ od_check_letters an_check_letters od_check_word an_check_word od_view_at an_view_at od_Turner___init__ an_Turner___init__ od_Turner___call__ an_Turner___call__ od_check_pairs an_check_pairs od_first_clash an_first_clash od_fit_turner an_fit_turner od__law_start an__law_start od__law_next an__law_next od__law_integer an__law_integer od__law_word an__law_word od__law_view an__law_view od__law_image an__law_image od__law_table an__law_table od__law_place an__law_place od__law_clash an__law_clash od__law_due_image an__law_due_image od__law_good_turner an__law_good_turner od__law_spoil an__law_spoil od__law_first_bad an__law_first_bad od__law_refused an__law_refused od_law an_law dd_BadWord cld_BadWord cdd_BadWord dd_BadText cld_BadText cdd_BadText : Option Addr} {sl_BadWord___init__ sl_BadText___init__ sl_check_letters sl_check_word sl_view_at sl_Turner___init__ sl_Turner___call__ sl_check_pairs sl_first_clash sl_fit_turner sl__law_start sl__law_next sl__law_integer sl__law_word sl__law_view sl__law_image sl__law_table sl__law_place sl__law_clash sl__law_due_image sl__law_good_turner sl__law_spoil sl__law_first_bad sl__law_refused sl_law csl_BadWord ccs_BadWord csl_BadText ccs_BadText : Array (Option Value)} {oc_BadWord___init__ kV_BadWord___init__ dc_BadWord___init__ pm_BadWord___init__ ct_BadWord___init__ oc_BadText___init__ kV_BadText___init__ dc_BadText___init__ pm_BadText___init__ ct_BadText___init__ oc_check_letters kV_check_letters dc_check_letters pm_check_letters ct_check_letters cd_check_letters oc_check_word kV_check_word dc_check_word pm_check_word ct_check_word cd_check_word oc_view_at kV_view_at dc_view_at pm_view_at ct_view_at cd_view_at oc_Turner___init__ kV_Turner___init__ dc_Turner___init__ pm_Turner___init__ ct_Turner___init__ cd_Turner___init__ oc_Turner___call__ kV_Turner___call__ dc_Turner___call__ pm_Turner___call__ ct_Turner___call__ cd_Turner___call__ oc_check_pairs kV_check_pairs dc_check_pairs pm_check_pairs ct_check_pairs cd_check_pairs oc_first_clash kV_first_clash dc_first_clash pm_first_clash ct_first_clash cd_first_clash oc_fit_turner kV_fit_turner dc_fit_turner pm_fit_turner ct_fit_turner cd_fit_turner oc__law_start kV__law_start dc__law_start pm__law_start ct__law_start cd__law_start oc__law_next kV__law_next dc__law_next pm__law_next ct__law_next cd__law_next oc__law_integer kV__law_integer dc__law_integer pm__law_integer ct__law_integer cd__law_integer oc__law_word kV__law_word dc__law_word pm__law_word ct__law_word cd__law_word oc__law_view kV__law_view dc__law_view pm__law_view ct__law_view cd__law_view oc__law_image kV__law_image dc__law_image pm__law_image ct__law_image cd__law_image oc__law_table kV__law_table dc__law_table pm__law_table ct__law_table cd__law_table oc__law_place kV__law_place dc__law_place pm__law_place ct__law_place cd__law_place oc__law_clash kV__law_clash dc__law_clash pm__law_clash ct__law_clash cd__law_clash oc__law_due_image kV__law_due_image dc__law_due_image pm__law_due_image ct__law_due_image cd__law_due_image oc__law_good_turner kV__law_good_turner dc__law_good_turner pm__law_good_turner ct__law_good_turner cd__law_good_turner oc__law_spoil kV__law_spoil dc__law_spoil pm__law_spoil ct__law_spoil cd__law_spoil oc__law_first_bad kV__law_first_bad dc__law_first_bad pm__law_first_bad ct__law_first_bad cd__law_first_bad oc__law_refused kV__law_refused dc__law_refused pm__law_refused ct__law_refused cd__law_refused oc_law kV_law dc_law pm_law ct_law cd_law ccl_BadWord cl_BadWord ccl_BadText cl_BadText : Value} {tk_SMALL tk_MOST_KINDS_OF_LETTERS tf_BadWord tf_BadText : Tok} {nm_BadWord q_BadWord fi_BadWord nm_BadText q_BadText fi_BadText : Str} {bs_BadWord bm_BadWord sb2_BadWord bs_BadText bm_BadText sb2_BadText : List Value} {sn_BadWord sn_BadText : List Str} {ab_BadWord ab_BadText : Bool} {co_BadWord co_BadText : Option Bool} {vs_BadWord vs_BadText : Array Value} {k0_BadWord k1_BadWord k2_BadWord k3_BadWord k5_BadWord k0_BadText k1_BadText k2_BadText k3_BadText k5_BadText : Option Value}
    (z_abs : PySem.W.nsIn K mainGlobals "abs" = some none)
    (z_bool : PySem.W.nsIn K mainGlobals "bool" = some none)
    (z_dict : PySem.W.nsIn K mainGlobals "dict" = some none)
    (z_enumerate : PySem.W.nsIn K mainGlobals "enumerate" = some none)
    (z_int : PySem.W.nsIn K mainGlobals "int" = some none)
    (z_isinstance : PySem.W.nsIn K mainGlobals "isinstance" = some none)
    (z_len : PySem.W.nsIn K mainGlobals "len" = some none)
    (z_list : PySem.W.nsIn K mainGlobals "list" = some none)
    (z_max : PySem.W.nsIn K mainGlobals "max" = some none)
    (z_range : PySem.W.nsIn K mainGlobals "range" = some none)
    (z_super : PySem.W.nsIn K mainGlobals "super" = some none)
    (z_tuple : PySem.W.nsIn K mainGlobals "tuple" = some none)
    (v_SMALL : PySem.W.nsIn K mainGlobals "SMALL" = some (some (.str "abcdefghijklmnopqrstuvwxyz" tk_SMALL)))
    (v_MOST_KINDS_OF_LETTERS : PySem.W.nsIn K mainGlobals "MOST_KINDS_OF_LETTERS" = some (some (.int 4 tk_MOST_KINDS_OF_LETTERS)))
    (g_LanguageError : PySem.W.nsIn K mainGlobals "LanguageError" = some (some (.ref c_LanguageError)))
    (g_BadLetters : PySem.W.nsIn K mainGlobals "BadLetters" = some (some (.ref c_BadLetters)))
    (g_BadWord : PySem.W.nsIn K mainGlobals "BadWord" = some (some (.ref c_BadWord)))
    (g_BadText : PySem.W.nsIn K mainGlobals "BadText" = some (some (.ref c_BadText)))
    (g_Turner : PySem.W.nsIn K mainGlobals "Turner" = some (some (.ref c_Turner)))
    (xi_BadWord : PySem.W.findIn K (.ref c_BadWord) "__init__" = some (some (.ref a_BadWord___init__)))
    (xti_BadWord : PySem.W.typeIn K (.ref a_BadWord___init__) = some (.type "function"))
    (l_BadWord___init__ : K.lookup a_BadWord___init__ = some ⟨oc_BadWord___init__, od_BadWord___init__, .func (PySem.W.ksFn "__init__" "BadWord.__init__" (defArgs s_BadWord___init__) (defBody s_BadWord___init__) (defScope s_BadWord___init__) .none kV_BadWord___init__ dc_BadWord___init__ pm_BadWord___init__ an_BadWord___init__ (.ref cda_BadWord) ct_BadWord___init__ cc_BadWord), sl_BadWord___init__⟩)
    (cd_BadWord___init__ : PySem.W.codeIn K (.ref cda_BadWord) "BadWord.__init__" = true)
    (xi_BadText : PySem.W.findIn K (.ref c_BadText) "__init__" = some (some (.ref a_BadText___init__)))
    (xti_BadText : PySem.W.typeIn K (.ref a_BadText___init__) = some (.type "function"))
    (l_BadText___init__ : K.lookup a_BadText___init__ = some ⟨oc_BadText___init__, od_BadText___init__, .func (PySem.W.ksFn "__init__" "BadText.__init__" (defArgs s_BadText___init__) (defBody s_BadText___init__) (defScope s_BadText___init__) .none kV_BadText___init__ dc_BadText___init__ pm_BadText___init__ an_BadText___init__ (.ref cda_BadText) ct_BadText___init__ cc_BadText), sl_BadText___init__⟩)
    (cd_BadText___init__ : PySem.W.codeIn K (.ref cda_BadText) "BadText.__init__" = true)
    (g_check_letters : PySem.W.nsIn K mainGlobals "check_letters" = some (some (.ref a_check_letters)))
    (l_check_letters : K.lookup a_check_letters = some ⟨oc_check_letters, od_check_letters, .func (PySem.W.fnOf "check_letters" "check_letters" (defArgs s_check_letters) (defBody s_check_letters) (defScope s_check_letters) .none kV_check_letters dc_check_letters pm_check_letters an_check_letters cd_check_letters ct_check_letters), sl_check_letters⟩)
    (c_check_letters : PySem.W.codeIn K cd_check_letters "check_letters" = true)
    (k_check_letters : PySem.W.keepIn K (.ref a_check_letters) = true)
    (g_check_word : PySem.W.nsIn K mainGlobals "check_word" = some (some (.ref a_check_word)))
    (l_check_word : K.lookup a_check_word = some ⟨oc_check_word, od_check_word, .func (PySem.W.fnOf "check_word" "check_word" (defArgs s_check_word) (defBody s_check_word) (defScope s_check_word) .none kV_check_word dc_check_word pm_check_word an_check_word cd_check_word ct_check_word), sl_check_word⟩)
    (c_check_word : PySem.W.codeIn K cd_check_word "check_word" = true)
    (k_check_word : PySem.W.keepIn K (.ref a_check_word) = true)
    (g_view_at : PySem.W.nsIn K mainGlobals "view_at" = some (some (.ref a_view_at)))
    (l_view_at : K.lookup a_view_at = some ⟨oc_view_at, od_view_at, .func (PySem.W.fnOf "view_at" "view_at" (defArgs s_view_at) (defBody s_view_at) (defScope s_view_at) .none kV_view_at dc_view_at pm_view_at an_view_at cd_view_at ct_view_at), sl_view_at⟩)
    (c_view_at : PySem.W.codeIn K cd_view_at "view_at" = true)
    (k_view_at : PySem.W.keepIn K (.ref a_view_at) = true)
    (in_Turner : PySem.W.findIn K (.ref c_Turner) "__init__" = some (some (.ref a_Turner___init__)))
    (l_Turner___init__ : K.lookup a_Turner___init__ = some ⟨oc_Turner___init__, od_Turner___init__, .func (PySem.W.fnOf "__init__" "Turner.__init__" (defArgs s_Turner___init__) (defBody s_Turner___init__) (defScope s_Turner___init__) .none kV_Turner___init__ dc_Turner___init__ pm_Turner___init__ an_Turner___init__ cd_Turner___init__ ct_Turner___init__), sl_Turner___init__⟩)
    (c_Turner___init__ : PySem.W.codeIn K cd_Turner___init__ "Turner.__init__" = true)
    (k_Turner___init__ : PySem.W.keepIn K (.ref a_Turner___init__) = true)
    (at_Turner___call__ : PySem.W.findIn K (.ref c_Turner) "__call__" = some (some (.ref a_Turner___call__)))
    (l_Turner___call__ : K.lookup a_Turner___call__ = some ⟨oc_Turner___call__, od_Turner___call__, .func (PySem.W.fnOf "__call__" "Turner.__call__" (defArgs s_Turner___call__) (defBody s_Turner___call__) (defScope s_Turner___call__) .none kV_Turner___call__ dc_Turner___call__ pm_Turner___call__ an_Turner___call__ cd_Turner___call__ ct_Turner___call__), sl_Turner___call__⟩)
    (c_Turner___call__ : PySem.W.codeIn K cd_Turner___call__ "Turner.__call__" = true)
    (k_Turner___call__ : PySem.W.keepIn K (.ref a_Turner___call__) = true)
    (g_check_pairs : PySem.W.nsIn K mainGlobals "check_pairs" = some (some (.ref a_check_pairs)))
    (l_check_pairs : K.lookup a_check_pairs = some ⟨oc_check_pairs, od_check_pairs, .func (PySem.W.fnOf "check_pairs" "check_pairs" (defArgs s_check_pairs) (defBody s_check_pairs) (defScope s_check_pairs) .none kV_check_pairs dc_check_pairs pm_check_pairs an_check_pairs cd_check_pairs ct_check_pairs), sl_check_pairs⟩)
    (c_check_pairs : PySem.W.codeIn K cd_check_pairs "check_pairs" = true)
    (k_check_pairs : PySem.W.keepIn K (.ref a_check_pairs) = true)
    (g_first_clash : PySem.W.nsIn K mainGlobals "first_clash" = some (some (.ref a_first_clash)))
    (l_first_clash : K.lookup a_first_clash = some ⟨oc_first_clash, od_first_clash, .func (PySem.W.fnOf "first_clash" "first_clash" (defArgs s_first_clash) (defBody s_first_clash) (defScope s_first_clash) .none kV_first_clash dc_first_clash pm_first_clash an_first_clash cd_first_clash ct_first_clash), sl_first_clash⟩)
    (c_first_clash : PySem.W.codeIn K cd_first_clash "first_clash" = true)
    (k_first_clash : PySem.W.keepIn K (.ref a_first_clash) = true)
    (g_fit_turner : PySem.W.nsIn K mainGlobals "fit_turner" = some (some (.ref a_fit_turner)))
    (l_fit_turner : K.lookup a_fit_turner = some ⟨oc_fit_turner, od_fit_turner, .func (PySem.W.fnOf "fit_turner" "fit_turner" (defArgs s_fit_turner) (defBody s_fit_turner) (defScope s_fit_turner) .none kV_fit_turner dc_fit_turner pm_fit_turner an_fit_turner cd_fit_turner ct_fit_turner), sl_fit_turner⟩)
    (c_fit_turner : PySem.W.codeIn K cd_fit_turner "fit_turner" = true)
    (k_fit_turner : PySem.W.keepIn K (.ref a_fit_turner) = true)
    (g__law_start : PySem.W.nsIn K mainGlobals "_law_start" = some (some (.ref a__law_start)))
    (l__law_start : K.lookup a__law_start = some ⟨oc__law_start, od__law_start, .func (PySem.W.fnOf "_law_start" "_law_start" (defArgs s__law_start) (defBody s__law_start) (defScope s__law_start) .none kV__law_start dc__law_start pm__law_start an__law_start cd__law_start ct__law_start), sl__law_start⟩)
    (c__law_start : PySem.W.codeIn K cd__law_start "_law_start" = true)
    (k__law_start : PySem.W.keepIn K (.ref a__law_start) = true)
    (g__law_next : PySem.W.nsIn K mainGlobals "_law_next" = some (some (.ref a__law_next)))
    (l__law_next : K.lookup a__law_next = some ⟨oc__law_next, od__law_next, .func (PySem.W.fnOf "_law_next" "_law_next" (defArgs s__law_next) (defBody s__law_next) (defScope s__law_next) .none kV__law_next dc__law_next pm__law_next an__law_next cd__law_next ct__law_next), sl__law_next⟩)
    (c__law_next : PySem.W.codeIn K cd__law_next "_law_next" = true)
    (k__law_next : PySem.W.keepIn K (.ref a__law_next) = true)
    (g__law_integer : PySem.W.nsIn K mainGlobals "_law_integer" = some (some (.ref a__law_integer)))
    (l__law_integer : K.lookup a__law_integer = some ⟨oc__law_integer, od__law_integer, .func (PySem.W.fnOf "_law_integer" "_law_integer" (defArgs s__law_integer) (defBody s__law_integer) (defScope s__law_integer) .none kV__law_integer dc__law_integer pm__law_integer an__law_integer cd__law_integer ct__law_integer), sl__law_integer⟩)
    (c__law_integer : PySem.W.codeIn K cd__law_integer "_law_integer" = true)
    (k__law_integer : PySem.W.keepIn K (.ref a__law_integer) = true)
    (g__law_word : PySem.W.nsIn K mainGlobals "_law_word" = some (some (.ref a__law_word)))
    (l__law_word : K.lookup a__law_word = some ⟨oc__law_word, od__law_word, .func (PySem.W.fnOf "_law_word" "_law_word" (defArgs s__law_word) (defBody s__law_word) (defScope s__law_word) .none kV__law_word dc__law_word pm__law_word an__law_word cd__law_word ct__law_word), sl__law_word⟩)
    (c__law_word : PySem.W.codeIn K cd__law_word "_law_word" = true)
    (k__law_word : PySem.W.keepIn K (.ref a__law_word) = true)
    (g__law_view : PySem.W.nsIn K mainGlobals "_law_view" = some (some (.ref a__law_view)))
    (l__law_view : K.lookup a__law_view = some ⟨oc__law_view, od__law_view, .func (PySem.W.fnOf "_law_view" "_law_view" (defArgs s__law_view) (defBody s__law_view) (defScope s__law_view) .none kV__law_view dc__law_view pm__law_view an__law_view cd__law_view ct__law_view), sl__law_view⟩)
    (c__law_view : PySem.W.codeIn K cd__law_view "_law_view" = true)
    (k__law_view : PySem.W.keepIn K (.ref a__law_view) = true)
    (g__law_image : PySem.W.nsIn K mainGlobals "_law_image" = some (some (.ref a__law_image)))
    (l__law_image : K.lookup a__law_image = some ⟨oc__law_image, od__law_image, .func (PySem.W.fnOf "_law_image" "_law_image" (defArgs s__law_image) (defBody s__law_image) (defScope s__law_image) .none kV__law_image dc__law_image pm__law_image an__law_image cd__law_image ct__law_image), sl__law_image⟩)
    (c__law_image : PySem.W.codeIn K cd__law_image "_law_image" = true)
    (k__law_image : PySem.W.keepIn K (.ref a__law_image) = true)
    (g__law_table : PySem.W.nsIn K mainGlobals "_law_table" = some (some (.ref a__law_table)))
    (l__law_table : K.lookup a__law_table = some ⟨oc__law_table, od__law_table, .func (PySem.W.fnOf "_law_table" "_law_table" (defArgs s__law_table) (defBody s__law_table) (defScope s__law_table) .none kV__law_table dc__law_table pm__law_table an__law_table cd__law_table ct__law_table), sl__law_table⟩)
    (c__law_table : PySem.W.codeIn K cd__law_table "_law_table" = true)
    (k__law_table : PySem.W.keepIn K (.ref a__law_table) = true)
    (g__law_place : PySem.W.nsIn K mainGlobals "_law_place" = some (some (.ref a__law_place)))
    (l__law_place : K.lookup a__law_place = some ⟨oc__law_place, od__law_place, .func (PySem.W.fnOf "_law_place" "_law_place" (defArgs s__law_place) (defBody s__law_place) (defScope s__law_place) .none kV__law_place dc__law_place pm__law_place an__law_place cd__law_place ct__law_place), sl__law_place⟩)
    (c__law_place : PySem.W.codeIn K cd__law_place "_law_place" = true)
    (k__law_place : PySem.W.keepIn K (.ref a__law_place) = true)
    (g__law_clash : PySem.W.nsIn K mainGlobals "_law_clash" = some (some (.ref a__law_clash)))
    (l__law_clash : K.lookup a__law_clash = some ⟨oc__law_clash, od__law_clash, .func (PySem.W.fnOf "_law_clash" "_law_clash" (defArgs s__law_clash) (defBody s__law_clash) (defScope s__law_clash) .none kV__law_clash dc__law_clash pm__law_clash an__law_clash cd__law_clash ct__law_clash), sl__law_clash⟩)
    (c__law_clash : PySem.W.codeIn K cd__law_clash "_law_clash" = true)
    (k__law_clash : PySem.W.keepIn K (.ref a__law_clash) = true)
    (g__law_due_image : PySem.W.nsIn K mainGlobals "_law_due_image" = some (some (.ref a__law_due_image)))
    (l__law_due_image : K.lookup a__law_due_image = some ⟨oc__law_due_image, od__law_due_image, .func (PySem.W.fnOf "_law_due_image" "_law_due_image" (defArgs s__law_due_image) (defBody s__law_due_image) (defScope s__law_due_image) .none kV__law_due_image dc__law_due_image pm__law_due_image an__law_due_image cd__law_due_image ct__law_due_image), sl__law_due_image⟩)
    (c__law_due_image : PySem.W.codeIn K cd__law_due_image "_law_due_image" = true)
    (k__law_due_image : PySem.W.keepIn K (.ref a__law_due_image) = true)
    (g__law_good_turner : PySem.W.nsIn K mainGlobals "_law_good_turner" = some (some (.ref a__law_good_turner)))
    (l__law_good_turner : K.lookup a__law_good_turner = some ⟨oc__law_good_turner, od__law_good_turner, .func (PySem.W.fnOf "_law_good_turner" "_law_good_turner" (defArgs s__law_good_turner) (defBody s__law_good_turner) (defScope s__law_good_turner) .none kV__law_good_turner dc__law_good_turner pm__law_good_turner an__law_good_turner cd__law_good_turner ct__law_good_turner), sl__law_good_turner⟩)
    (c__law_good_turner : PySem.W.codeIn K cd__law_good_turner "_law_good_turner" = true)
    (k__law_good_turner : PySem.W.keepIn K (.ref a__law_good_turner) = true)
    (g__law_spoil : PySem.W.nsIn K mainGlobals "_law_spoil" = some (some (.ref a__law_spoil)))
    (l__law_spoil : K.lookup a__law_spoil = some ⟨oc__law_spoil, od__law_spoil, .func (PySem.W.fnOf "_law_spoil" "_law_spoil" (defArgs s__law_spoil) (defBody s__law_spoil) (defScope s__law_spoil) .none kV__law_spoil dc__law_spoil pm__law_spoil an__law_spoil cd__law_spoil ct__law_spoil), sl__law_spoil⟩)
    (c__law_spoil : PySem.W.codeIn K cd__law_spoil "_law_spoil" = true)
    (k__law_spoil : PySem.W.keepIn K (.ref a__law_spoil) = true)
    (g__law_first_bad : PySem.W.nsIn K mainGlobals "_law_first_bad" = some (some (.ref a__law_first_bad)))
    (l__law_first_bad : K.lookup a__law_first_bad = some ⟨oc__law_first_bad, od__law_first_bad, .func (PySem.W.fnOf "_law_first_bad" "_law_first_bad" (defArgs s__law_first_bad) (defBody s__law_first_bad) (defScope s__law_first_bad) .none kV__law_first_bad dc__law_first_bad pm__law_first_bad an__law_first_bad cd__law_first_bad ct__law_first_bad), sl__law_first_bad⟩)
    (c__law_first_bad : PySem.W.codeIn K cd__law_first_bad "_law_first_bad" = true)
    (k__law_first_bad : PySem.W.keepIn K (.ref a__law_first_bad) = true)
    (g__law_refused : PySem.W.nsIn K mainGlobals "_law_refused" = some (some (.ref a__law_refused)))
    (l__law_refused : K.lookup a__law_refused = some ⟨oc__law_refused, od__law_refused, .func (PySem.W.fnOf "_law_refused" "_law_refused" (defArgs s__law_refused) (defBody s__law_refused) (defScope s__law_refused) .none kV__law_refused dc__law_refused pm__law_refused an__law_refused cd__law_refused ct__law_refused), sl__law_refused⟩)
    (c__law_refused : PySem.W.codeIn K cd__law_refused "_law_refused" = true)
    (k__law_refused : PySem.W.keepIn K (.ref a__law_refused) = true)
    (g_law : PySem.W.nsIn K mainGlobals "law" = some (some (.ref a_law)))
    (l_law : K.lookup a_law = some ⟨oc_law, od_law, .func (PySem.W.fnOf "law" "law" (defArgs s_law) (defBody s_law) (defScope s_law) .none kV_law dc_law pm_law an_law cd_law ct_law), sl_law⟩)
    (c_law : PySem.W.codeIn K cd_law "law" = true)
    (k_law : PySem.W.keepIn K (.ref a_law) = true)
    (sb_LanguageError : PySem.W.subIn K (.ref c_LanguageError) (.type "BaseException") = some true)
    (ty_LanguageError : PySem.W.typeIn K (.ref c_LanguageError) = some (.type "type"))
    (hd_LanguageError : PySem.W.hasDictIn K c_LanguageError = true)
    (sb_BadLetters : PySem.W.subIn K (.ref c_BadLetters) (.type "BaseException") = some true)
    (ty_BadLetters : PySem.W.typeIn K (.ref c_BadLetters) = some (.type "type"))
    (hd_BadLetters : PySem.W.hasDictIn K c_BadLetters = true)
    (kc_BadLetters : PySem.W.keepIn K (.ref c_BadLetters) = true)
    (ga_BadLetters : PySem.W.findIn K (.ref c_BadLetters) "__getattribute__" = some (some (.builtin "BaseException.__getattribute__")))
    (gg_BadLetters : PySem.W.findIn K (.ref c_BadLetters) "__getattr__" = some none)
    (ha_BadLetters : PySem.W.findIn K (.ref c_BadLetters) "__class__" = some (some (.builtin "object.__class__")))
    (hm_BadLetters : PySem.W.mroIn K c_BadLetters (.type "object") = some true)
    (su_BadLetters_LanguageError : PySem.W.subIn K (.ref c_BadLetters) (.ref c_LanguageError) = some true)
    (ki_BadLetters_BadText : PySem.W.kitOne K (.ref c_BadLetters) (.ref c_BadText) = some false)
    (ki_BadLetters_BadWord : PySem.W.kitOne K (.ref c_BadLetters) (.ref c_BadWord) = some false)
    (sb_BadText : PySem.W.subIn K (.ref c_BadText) (.type "BaseException") = some true)
    (ty_BadText : PySem.W.typeIn K (.ref c_BadText) = some (.type "type"))
    (hd_BadText : PySem.W.hasDictIn K c_BadText = true)
    (kc_BadText : PySem.W.keepIn K (.ref c_BadText) = true)
    (ga_BadText : PySem.W.findIn K (.ref c_BadText) "__getattribute__" = some (some (.builtin "BaseException.__getattribute__")))
    (gg_BadText : PySem.W.findIn K (.ref c_BadText) "__getattr__" = some none)
    (ha_BadText : PySem.W.findIn K (.ref c_BadText) "__class__" = some (some (.builtin "object.__class__")))
    (hm_BadText : PySem.W.mroIn K c_BadText (.type "object") = some true)
    (su_BadText_LanguageError : PySem.W.subIn K (.ref c_BadText) (.ref c_LanguageError) = some true)
    (ki_BadText_BadText : PySem.W.kitOne K (.ref c_BadText) (.ref c_BadText) = some true)
    (ki_BadText_BadWord : PySem.W.kitOne K (.ref c_BadText) (.ref c_BadWord) = some false)
    (sb_BadWord : PySem.W.subIn K (.ref c_BadWord) (.type "BaseException") = some true)
    (ty_BadWord : PySem.W.typeIn K (.ref c_BadWord) = some (.type "type"))
    (hd_BadWord : PySem.W.hasDictIn K c_BadWord = true)
    (kc_BadWord : PySem.W.keepIn K (.ref c_BadWord) = true)
    (ga_BadWord : PySem.W.findIn K (.ref c_BadWord) "__getattribute__" = some (some (.builtin "BaseException.__getattribute__")))
    (gg_BadWord : PySem.W.findIn K (.ref c_BadWord) "__getattr__" = some none)
    (ha_BadWord : PySem.W.findIn K (.ref c_BadWord) "__class__" = some (some (.builtin "object.__class__")))
    (hm_BadWord : PySem.W.mroIn K c_BadWord (.type "object") = some true)
    (su_BadWord_LanguageError : PySem.W.subIn K (.ref c_BadWord) (.ref c_LanguageError) = some true)
    (ki_BadWord_BadText : PySem.W.kitOne K (.ref c_BadWord) (.ref c_BadText) = some false)
    (ki_BadWord_BadWord : PySem.W.kitOne K (.ref c_BadWord) (.ref c_BadWord) = some true)
    (pg_Turner : PySem.W.plainGet K c_Turner Str.empty = true)
    (hd_Turner : PySem.W.hasDictIn K c_Turner = true)
    (po_Turner : PySem.W.plainOver K c_Turner = true)
    (st_Turner : PySem.W.findIn K (.ref c_Turner) "__setattr__" = some (some (.builtin "object.__setattr__")))
    (mi_Turner : PySem.W.makesIn K c_Turner = true)
    (kc_Turner : PySem.W.keepIn K (.ref c_Turner) = true)
    (ha_Turner : PySem.W.findIn K (.ref c_Turner) "__class__" = some (some (.builtin "object.__class__")))
    (hm_Turner : PySem.W.mroIn K c_Turner (.type "object") = some true)
    (if_Turner___init__ : PySem.W.isFn K (.ref a_Turner___init__) = true)
    (if_Turner___call__ : PySem.W.isFn K (.ref a_Turner___call__) = true)
    (nf_Turner_letters : PySem.W.findIn K (.ref c_Turner) "letters" = some none)
    (nf_Turner_images : PySem.W.findIn K (.ref c_Turner) "images" = some none)
    (nf_Turner_size : PySem.W.findIn K (.ref c_Turner) "size" = some none)
    (nf_Turner_table : PySem.W.findIn K (.ref c_Turner) "table" = some none)
    (io_Turner_Turner : PySem.W.kitOne K (.ref c_Turner) (.ref c_Turner) = some true)
    (oc_n : PySem.W.specialIn K (.builtin "object.__class__") "__get__" = some (some (.builtin "getset_descriptor.__get__")))
    (oc_t : PySem.W.takesIn K (.builtin "object.__class__") = some true)
    (x_BadWord : K.lookup c_BadWord = some (excClassObj nm_BadWord q_BadWord c_BadWord N_BadWord bs_BadWord bm_BadWord true sn_BadWord sb2_BadWord ab_BadWord co_BadWord dd_BadWord k0_BadWord k1_BadWord k2_BadWord k3_BadWord k5_BadWord "ValueError.__new__"))
    (rv_BadWord : PySem.HandSPX.refsVE bm_BadWord = true)
    (sa_BadWord : PySem.W.findIn K (.ref c_BadWord) "__setattr__" = some (some (.builtin "object.__setattr__")))
    (sp_BadWord : PySem.W.ks_superIn K c_BadWord c_BadWord "__init__" = some (some (.builtin "ValueError.__init__")))
    (mr_BadWord : PySem.W.mroIn K c_BadWord (.ref c_BadWord) = some true)
    (sv_BadWord : PySem.W.subIn K (.ref c_BadWord) (.type "ValueError") = some true)
    (ce_BadWord : K.lookup cc_BadWord = some ⟨cl_BadWord, cld_BadWord, .cell (some (.ref c_BadWord)), csl_BadWord⟩)
    (co1_BadWord : K.lookup cda_BadWord = some ⟨ccl_BadWord, cdd_BadWord, .fields vs_BadWord, ccs_BadWord⟩)
    (co2_BadWord : vs_BadWord[2]? = some (.str fi_BadWord tf_BadWord))
    (co3_BadWord : ((PySem.Challenge.rw_treesfromyes_k87_turner_fits_or_clash.prog.main.file : Str) == fi_BadWord) = true)
    (op_BadWord : PySem.W.nsIn K PySem.cStatics "thirdparty.any" = some none)
    (tp_BadWord : (PySem.Challenge.rw_treesfromyes_k87_turner_fits_or_clash.prog.main.scope.names.lookup ("super" : Str)).isSome = false)
    (no_BadWord_word : PySem.W.findIn K (.ref c_BadWord) "word" = some none)
    (no_BadWord_place : PySem.W.findIn K (.ref c_BadWord) "place" = some none)
    (x_BadText : K.lookup c_BadText = some (excClassObj nm_BadText q_BadText c_BadText N_BadText bs_BadText bm_BadText true sn_BadText sb2_BadText ab_BadText co_BadText dd_BadText k0_BadText k1_BadText k2_BadText k3_BadText k5_BadText "ValueError.__new__"))
    (rv_BadText : PySem.HandSPX.refsVE bm_BadText = true)
    (sa_BadText : PySem.W.findIn K (.ref c_BadText) "__setattr__" = some (some (.builtin "object.__setattr__")))
    (sp_BadText : PySem.W.ks_superIn K c_BadText c_BadText "__init__" = some (some (.builtin "ValueError.__init__")))
    (mr_BadText : PySem.W.mroIn K c_BadText (.ref c_BadText) = some true)
    (sv_BadText : PySem.W.subIn K (.ref c_BadText) (.type "ValueError") = some true)
    (ce_BadText : K.lookup cc_BadText = some ⟨cl_BadText, cld_BadText, .cell (some (.ref c_BadText)), csl_BadText⟩)
    (co1_BadText : K.lookup cda_BadText = some ⟨ccl_BadText, cdd_BadText, .fields vs_BadText, ccs_BadText⟩)
    (co2_BadText : vs_BadText[2]? = some (.str fi_BadText tf_BadText))
    (co3_BadText : ((PySem.Challenge.rw_treesfromyes_k87_turner_fits_or_clash.prog.main.file : Str) == fi_BadText) = true)
    (op_BadText : PySem.W.nsIn K PySem.cStatics "thirdparty.any" = some none)
    (tp_BadText : (PySem.Challenge.rw_treesfromyes_k87_turner_fits_or_clash.prog.main.scope.names.lookup ("super" : Str)).isSome = false)
    (no_BadText_line : PySem.W.findIn K (.ref c_BadText) "line" = some none)
    (ei_BadLetters : PySem.W.excIn K c_BadLetters [.type "ValueError", .type "Exception", .type "BaseException", .type "object"] "ValueError.__new__" = true)
    (hfi_Turner___call__ : PySem.W.fnIn K (a_Turner___call__) = true)
    : ∃ fd : FuncData, (∀ (s : Shared) (v : Value), BindsTo s fd ⟨[v], []⟩ [("script", v)]) ∧ ∀ base : Heap, K.In base → base.Ns mainGlobals mg → FnOk PySem.Challenge.rw_treesfromyes_k87_turner_fits_or_clash.prog w K mg base CX0 7 fa fd ["script"] (sp_law K) := by
  have e : a_law = fa := by
    have q := (PySem.W.mg_of X G g_law).symm.trans hfa
    cases q
    rfl
  subst e
  have F_check_letters := fun_mk (st := s_check_letters) l_check_letters c_check_letters k_check_letters
  have F_check_word := fun_mk (st := s_check_word) l_check_word c_check_word k_check_word
  have F_view_at := fun_mk (st := s_view_at) l_view_at c_view_at k_view_at
  have F_Turner___init__ := fun_mk (st := s_Turner___init__) l_Turner___init__ c_Turner___init__ k_Turner___init__
  have F_Turner___call__ := fun_mk (st := s_Turner___call__) l_Turner___call__ c_Turner___call__ k_Turner___call__
  have F_check_pairs := fun_mk (st := s_check_pairs) l_check_pairs c_check_pairs k_check_pairs
  have F_first_clash := fun_mk (st := s_first_clash) l_first_clash c_first_clash k_first_clash
  have F_fit_turner := fun_mk (st := s_fit_turner) l_fit_turner c_fit_turner k_fit_turner
  have F__law_start := fun_mk (st := s__law_start) l__law_start c__law_start k__law_start
  have F__law_next := fun_mk (st := s__law_next) l__law_next c__law_next k__law_next
  have F__law_integer := fun_mk (st := s__law_integer) l__law_integer c__law_integer k__law_integer
  have F__law_word := fun_mk (st := s__law_word) l__law_word c__law_word k__law_word
  have F__law_view := fun_mk (st := s__law_view) l__law_view c__law_view k__law_view
  have F__law_image := fun_mk (st := s__law_image) l__law_image c__law_image k__law_image
  have F__law_table := fun_mk (st := s__law_table) l__law_table c__law_table k__law_table
  have F__law_place := fun_mk (st := s__law_place) l__law_place c__law_place k__law_place
  have F__law_clash := fun_mk (st := s__law_clash) l__law_clash c__law_clash k__law_clash
  have F__law_due_image := fun_mk (st := s__law_due_image) l__law_due_image c__law_due_image k__law_due_image
  have F__law_good_turner := fun_mk (st := s__law_good_turner) l__law_good_turner c__law_good_turner k__law_good_turner
  have F__law_spoil := fun_mk (st := s__law_spoil) l__law_spoil c__law_spoil k__law_spoil
  have F__law_first_bad := fun_mk (st := s__law_first_bad) l__law_first_bad c__law_first_bad k__law_first_bad
  have F__law_refused := fun_mk (st := s__law_refused) l__law_refused c__law_refused k__law_refused
  have F_law := fun_mk (st := s_law) l_law c_law k_law
  have OX_BadWord : OexC K c_BadWord := ⟨⟨_, _, _, _, _, _, _, _, _, _, _, _, _, _, _, x_BadWord, rv_BadWord⟩, sa_BadWord, sb_BadWord, ty_BadWord, kc_BadWord⟩
  have OX_BadText : OexC K c_BadText := ⟨⟨_, _, _, _, _, _, _, _, _, _, _, _, _, _, _, x_BadText, rv_BadText⟩, sa_BadText, sb_BadText, ty_BadText, kc_BadText⟩
  have T : Txt PySem.Challenge.rw_treesfromyes_k87_turner_fits_or_clash.prog K mg {
    tk_SMALL := tk_SMALL,
    tk_MOST_KINDS_OF_LETTERS := tk_MOST_KINDS_OF_LETTERS,
    c_LanguageError := c_LanguageError,
    c_BadLetters := c_BadLetters,
    c_BadWord := c_BadWord,
    c_BadText := c_BadText,
    c_Turner := c_Turner,
    a_BadWord___init__ := a_BadWord___init__,
    cc_BadWord := cc_BadWord,
    cda_BadWord := cda_BadWord,
    fd_BadWord___init__ := PySem.W.ksFn "__init__" "BadWord.__init__" (defArgs s_BadWord___init__) (defBody s_BadWord___init__) (defScope s_BadWord___init__) .none kV_BadWord___init__ dc_BadWord___init__ pm_BadWord___init__ an_BadWord___init__ (.ref cda_BadWord) ct_BadWord___init__ cc_BadWord,
    a_BadText___init__ := a_BadText___init__,
    cc_BadText := cc_BadText,
    cda_BadText := cda_BadText,
    fd_BadText___init__ := PySem.W.ksFn "__init__" "BadText.__init__" (defArgs s_BadText___init__) (defBody s_BadText___init__) (defScope s_BadText___init__) .none kV_BadText___init__ dc_BadText___init__ pm_BadText___init__ an_BadText___init__ (.ref cda_BadText) ct_BadText___init__ cc_BadText,
    a_check_letters := a_check_letters,
    fd_check_letters := PySem.W.fnOf "check_letters" "check_letters" (defArgs s_check_letters) (defBody s_check_letters) (defScope s_check_letters) .none kV_check_letters dc_check_letters pm_check_letters an_check_letters cd_check_letters ct_check_letters,
    a_check_word := a_check_word,
    fd_check_word := PySem.W.fnOf "check_word" "check_word" (defArgs s_check_word) (defBody s_check_word) (defScope s_check_word) .none kV_check_word dc_check_word pm_check_word an_check_word cd_check_word ct_check_word,
    a_view_at := a_view_at,
    fd_view_at := PySem.W.fnOf "view_at" "view_at" (defArgs s_view_at) (defBody s_view_at) (defScope s_view_at) .none kV_view_at dc_view_at pm_view_at an_view_at cd_view_at ct_view_at,
    a_Turner___init__ := a_Turner___init__,
    fd_Turner___init__ := PySem.W.fnOf "__init__" "Turner.__init__" (defArgs s_Turner___init__) (defBody s_Turner___init__) (defScope s_Turner___init__) .none kV_Turner___init__ dc_Turner___init__ pm_Turner___init__ an_Turner___init__ cd_Turner___init__ ct_Turner___init__,
    a_Turner___call__ := a_Turner___call__,
    fd_Turner___call__ := PySem.W.fnOf "__call__" "Turner.__call__" (defArgs s_Turner___call__) (defBody s_Turner___call__) (defScope s_Turner___call__) .none kV_Turner___call__ dc_Turner___call__ pm_Turner___call__ an_Turner___call__ cd_Turner___call__ ct_Turner___call__,
    a_check_pairs := a_check_pairs,
    fd_check_pairs := PySem.W.fnOf "check_pairs" "check_pairs" (defArgs s_check_pairs) (defBody s_check_pairs) (defScope s_check_pairs) .none kV_check_pairs dc_check_pairs pm_check_pairs an_check_pairs cd_check_pairs ct_check_pairs,
    a_first_clash := a_first_clash,
    fd_first_clash := PySem.W.fnOf "first_clash" "first_clash" (defArgs s_first_clash) (defBody s_first_clash) (defScope s_first_clash) .none kV_first_clash dc_first_clash pm_first_clash an_first_clash cd_first_clash ct_first_clash,
    a_fit_turner := a_fit_turner,
    fd_fit_turner := PySem.W.fnOf "fit_turner" "fit_turner" (defArgs s_fit_turner) (defBody s_fit_turner) (defScope s_fit_turner) .none kV_fit_turner dc_fit_turner pm_fit_turner an_fit_turner cd_fit_turner ct_fit_turner,
    a__law_start := a__law_start,
    fd__law_start := PySem.W.fnOf "_law_start" "_law_start" (defArgs s__law_start) (defBody s__law_start) (defScope s__law_start) .none kV__law_start dc__law_start pm__law_start an__law_start cd__law_start ct__law_start,
    a__law_next := a__law_next,
    fd__law_next := PySem.W.fnOf "_law_next" "_law_next" (defArgs s__law_next) (defBody s__law_next) (defScope s__law_next) .none kV__law_next dc__law_next pm__law_next an__law_next cd__law_next ct__law_next,
    a__law_integer := a__law_integer,
    fd__law_integer := PySem.W.fnOf "_law_integer" "_law_integer" (defArgs s__law_integer) (defBody s__law_integer) (defScope s__law_integer) .none kV__law_integer dc__law_integer pm__law_integer an__law_integer cd__law_integer ct__law_integer,
    a__law_word := a__law_word,
    fd__law_word := PySem.W.fnOf "_law_word" "_law_word" (defArgs s__law_word) (defBody s__law_word) (defScope s__law_word) .none kV__law_word dc__law_word pm__law_word an__law_word cd__law_word ct__law_word,
    a__law_view := a__law_view,
    fd__law_view := PySem.W.fnOf "_law_view" "_law_view" (defArgs s__law_view) (defBody s__law_view) (defScope s__law_view) .none kV__law_view dc__law_view pm__law_view an__law_view cd__law_view ct__law_view,
    a__law_image := a__law_image,
    fd__law_image := PySem.W.fnOf "_law_image" "_law_image" (defArgs s__law_image) (defBody s__law_image) (defScope s__law_image) .none kV__law_image dc__law_image pm__law_image an__law_image cd__law_image ct__law_image,
    a__law_table := a__law_table,
    fd__law_table := PySem.W.fnOf "_law_table" "_law_table" (defArgs s__law_table) (defBody s__law_table) (defScope s__law_table) .none kV__law_table dc__law_table pm__law_table an__law_table cd__law_table ct__law_table,
    a__law_place := a__law_place,
    fd__law_place := PySem.W.fnOf "_law_place" "_law_place" (defArgs s__law_place) (defBody s__law_place) (defScope s__law_place) .none kV__law_place dc__law_place pm__law_place an__law_place cd__law_place ct__law_place,
    a__law_clash := a__law_clash,
    fd__law_clash := PySem.W.fnOf "_law_clash" "_law_clash" (defArgs s__law_clash) (defBody s__law_clash) (defScope s__law_clash) .none kV__law_clash dc__law_clash pm__law_clash an__law_clash cd__law_clash ct__law_clash,
    a__law_due_image := a__law_due_image,
    fd__law_due_image := PySem.W.fnOf "_law_due_image" "_law_due_image" (defArgs s__law_due_image) (defBody s__law_due_image) (defScope s__law_due_image) .none kV__law_due_image dc__law_due_image pm__law_due_image an__law_due_image cd__law_due_image ct__law_due_image,
    a__law_good_turner := a__law_good_turner,
    fd__law_good_turner := PySem.W.fnOf "_law_good_turner" "_law_good_turner" (defArgs s__law_good_turner) (defBody s__law_good_turner) (defScope s__law_good_turner) .none kV__law_good_turner dc__law_good_turner pm__law_good_turner an__law_good_turner cd__law_good_turner ct__law_good_turner,
    a__law_spoil := a__law_spoil,
    fd__law_spoil := PySem.W.fnOf "_law_spoil" "_law_spoil" (defArgs s__law_spoil) (defBody s__law_spoil) (defScope s__law_spoil) .none kV__law_spoil dc__law_spoil pm__law_spoil an__law_spoil cd__law_spoil ct__law_spoil,
    a__law_first_bad := a__law_first_bad,
    fd__law_first_bad := PySem.W.fnOf "_law_first_bad" "_law_first_bad" (defArgs s__law_first_bad) (defBody s__law_first_bad) (defScope s__law_first_bad) .none kV__law_first_bad dc__law_first_bad pm__law_first_bad an__law_first_bad cd__law_first_bad ct__law_first_bad,
    a__law_refused := a__law_refused,
    fd__law_refused := PySem.W.fnOf "_law_refused" "_law_refused" (defArgs s__law_refused) (defBody s__law_refused) (defScope s__law_refused) .none kV__law_refused dc__law_refused pm__law_refused an__law_refused cd__law_refused ct__law_refused,
    a_law := a_law,
    fd_law := PySem.W.fnOf "law" "law" (defArgs s_law) (defBody s_law) (defScope s_law) .none kV_law dc_law pm_law an_law cd_law ct_law } := {
    n_abs := PySem.W.mg_none_of X G z_abs,
    n_bool := PySem.W.mg_none_of X G z_bool,
    n_dict := PySem.W.mg_none_of X G z_dict,
    n_enumerate := PySem.W.mg_none_of X G z_enumerate,
    n_int := PySem.W.mg_none_of X G z_int,
    n_isinstance := PySem.W.mg_none_of X G z_isinstance,
    n_len := PySem.W.mg_none_of X G z_len,
    n_list := PySem.W.mg_none_of X G z_list,
    n_max := PySem.W.mg_none_of X G z_max,
    n_range := PySem.W.mg_none_of X G z_range,
    n_super := PySem.W.mg_none_of X G z_super,
    n_tuple := PySem.W.mg_none_of X G z_tuple,
    c_SMALL := PySem.W.mg_of X G v_SMALL,
    c_MOST_KINDS_OF_LETTERS := PySem.W.mg_of X G v_MOST_KINDS_OF_LETTERS,
    g_LanguageError := PySem.W.mg_of X G g_LanguageError,
    g_BadLetters := PySem.W.mg_of X G g_BadLetters,
    g_BadWord := PySem.W.mg_of X G g_BadWord,
    g_BadText := PySem.W.mg_of X G g_BadText,
    g_Turner := PySem.W.mg_of X G g_Turner,
    l_BadWord___init__ := ⟨_, _, _, _, _, _, _, _, rfl, l_BadWord___init__⟩,
    cd_BadWord___init__ := cd_BadWord___init__,
    b_BadWord___init__ := Binds.all fun us hl => match us, hl with | [_, _, _], _ => rfl,
    l_BadText___init__ := ⟨_, _, _, _, _, _, _, _, rfl, l_BadText___init__⟩,
    cd_BadText___init__ := cd_BadText___init__,
    b_BadText___init__ := Binds.all fun us hl => match us, hl with | [_, _], _ => rfl,
    g_check_letters := PySem.W.mg_of X G g_check_letters,
    F_check_letters := F_check_letters,
    b_check_letters := F_check_letters.binds (ps := ["letters"]) fun _ _ _ _ _ _ us hl => match us, hl with | [_], _ => rfl,
    g_check_word := PySem.W.mg_of X G g_check_word,
    F_check_word := F_check_word,
    b_check_word := F_check_word.binds (ps := ["letters", "word"]) fun _ _ _ _ _ _ us hl => match us, hl with | [_, _], _ => rfl,
    g_view_at := PySem.W.mg_of X G g_view_at,
    F_view_at := F_view_at,
    b_view_at := F_view_at.binds (ps := ["word", "at", "size"]) fun _ _ _ _ _ _ us hl => match us, hl with | [_, _, _], _ => rfl,
    F_Turner___init__ := F_Turner___init__,
    b_Turner___init__ := F_Turner___init__.binds (ps := ["self", "letters", "images", "size", "table"]) fun _ _ _ _ _ _ us hl => match us, hl with | [_, _, _, _, _], _ => rfl,
    F_Turner___call__ := F_Turner___call__,
    b_Turner___call__ := F_Turner___call__.binds (ps := ["self", "word"]) fun _ _ _ _ _ _ us hl => match us, hl with | [_, _], _ => rfl,
    g_check_pairs := PySem.W.mg_of X G g_check_pairs,
    F_check_pairs := F_check_pairs,
    b_check_pairs := F_check_pairs.binds (ps := ["letters", "images", "pairs"]) fun _ _ _ _ _ _ us hl => match us, hl with | [_, _, _], _ => rfl,
    g_first_clash := PySem.W.mg_of X G g_first_clash,
    F_first_clash := F_first_clash,
    b_first_clash := F_first_clash.binds (ps := ["pairs", "size"]) fun _ _ _ _ _ _ us hl => match us, hl with | [_, _], _ => rfl,
    g_fit_turner := PySem.W.mg_of X G g_fit_turner,
    F_fit_turner := F_fit_turner,
    b_fit_turner := F_fit_turner.binds (ps := ["letters", "images", "size", "pairs"]) fun _ _ _ _ _ _ us hl => match us, hl with | [_, _, _, _], _ => rfl,
    g__law_start := PySem.W.mg_of X G g__law_start,
    F__law_start := F__law_start,
    b__law_start := F__law_start.binds (ps := ["script"]) fun _ _ _ _ _ _ us hl => match us, hl with | [_], _ => rfl,
    g__law_next := PySem.W.mg_of X G g__law_next,
    F__law_next := F__law_next,
    b__law_next := F__law_next.binds (ps := ["state", "many"]) fun _ _ _ _ _ _ us hl => match us, hl with | [_, _], _ => rfl,
    g__law_integer := PySem.W.mg_of X G g__law_integer,
    F__law_integer := F__law_integer,
    b__law_integer := F__law_integer.binds (ps := ["actual"]) fun _ _ _ _ _ _ us hl => match us, hl with | [_], _ => rfl,
    g__law_word := PySem.W.mg_of X G g__law_word,
    F__law_word := F__law_word,
    b__law_word := F__law_word.binds (ps := ["state", "letters", "size"]) fun _ _ _ _ _ _ us hl => match us, hl with | [_, _, _], _ => rfl,
    g__law_view := PySem.W.mg_of X G g__law_view,
    F__law_view := F__law_view,
    b__law_view := F__law_view.binds (ps := ["word", "at", "size"]) fun _ _ _ _ _ _ us hl => match us, hl with | [_, _, _], _ => rfl,
    g__law_image := PySem.W.mg_of X G g__law_image,
    F__law_image := F__law_image,
    b__law_image := F__law_image.binds (ps := ["state", "known", "word", "images", "size"]) fun _ _ _ _ _ _ us hl => match us, hl with | [_, _, _, _, _], _ => rfl,
    g__law_table := PySem.W.mg_of X G g__law_table,
    F__law_table := F__law_table,
    b__law_table := F__law_table.binds (ps := ["pairs", "size"]) fun _ _ _ _ _ _ us hl => match us, hl with | [_, _], _ => rfl,
    g__law_place := PySem.W.mg_of X G g__law_place,
    F__law_place := F__law_place,
    b__law_place := F__law_place.binds (ps := ["pairs", "place"]) fun _ _ _ _ _ _ us hl => match us, hl with | [_, _], _ => rfl,
    g__law_clash := PySem.W.mg_of X G g__law_clash,
    F__law_clash := F__law_clash,
    b__law_clash := F__law_clash.binds (ps := ["pairs", "size", "answer"]) fun _ _ _ _ _ _ us hl => match us, hl with | [_, _, _], _ => rfl,
    g__law_due_image := PySem.W.mg_of X G g__law_due_image,
    F__law_due_image := F__law_due_image,
    b__law_due_image := F__law_due_image.binds (ps := ["table", "word", "size"]) fun _ _ _ _ _ _ us hl => match us, hl with | [_, _, _], _ => rfl,
    g__law_good_turner := PySem.W.mg_of X G g__law_good_turner,
    F__law_good_turner := F__law_good_turner,
    b__law_good_turner := F__law_good_turner.binds (ps := ["turner", "letters", "images", "size", "table", "pairs", "more"]) fun _ _ _ _ _ _ us hl => match us, hl with | [_, _, _, _, _, _, _], _ => rfl,
    g__law_spoil := PySem.W.mg_of X G g__law_spoil,
    F__law_spoil := F__law_spoil,
    b__law_spoil := F__law_spoil.binds (ps := ["state", "pairs", "letters", "images"]) fun _ _ _ _ _ _ us hl => match us, hl with | [_, _, _, _], _ => rfl,
    g__law_first_bad := PySem.W.mg_of X G g__law_first_bad,
    F__law_first_bad := F__law_first_bad,
    b__law_first_bad := F__law_first_bad.binds (ps := ["pairs", "letters", "images"]) fun _ _ _ _ _ _ us hl => match us, hl with | [_, _, _], _ => rfl,
    g__law_refused := PySem.W.mg_of X G g__law_refused,
    F__law_refused := F__law_refused,
    b__law_refused := F__law_refused.binds (ps := ["letters", "images", "size", "pairs", "bad"]) fun _ _ _ _ _ _ us hl => match us, hl with | [_, _, _, _, _], _ => rfl,
    g_law := PySem.W.mg_of X G g_law,
    F_law := F_law,
    b_law := F_law.binds (ps := ["script"]) fun _ _ _ _ _ _ us hl => match us, hl with | [_], _ => rfl,
    ec_BadLetters := ⟨ga_BadLetters, gg_BadLetters, sb_BadLetters, hd_BadLetters, ha_BadLetters, oc_n, oc_t, hm_BadLetters⟩,
    te_BadLetters_LanguageError := PySem.W.exm_ref sb_LanguageError hd_LanguageError ty_LanguageError su_BadLetters_LanguageError,
    ki_BadLetters_BadText := ki_BadLetters_BadText,
    ki_BadLetters_BadWord := ki_BadLetters_BadWord,
    ec_BadText := ⟨ga_BadText, gg_BadText, sb_BadText, hd_BadText, ha_BadText, oc_n, oc_t, hm_BadText⟩,
    te_BadText_LanguageError := PySem.W.exm_ref sb_LanguageError hd_LanguageError ty_LanguageError su_BadText_LanguageError,
    ki_BadText_BadText := ki_BadText_BadText,
    ki_BadText_BadWord := ki_BadText_BadWord,
    ec_BadWord := ⟨ga_BadWord, gg_BadWord, sb_BadWord, hd_BadWord, ha_BadWord, oc_n, oc_t, hm_BadWord⟩,
    te_BadWord_LanguageError := PySem.W.exm_ref sb_LanguageError hd_LanguageError ty_LanguageError su_BadWord_LanguageError,
    ki_BadWord_BadText := ki_BadWord_BadText,
    ki_BadWord_BadWord := ki_BadWord_BadWord,
    cl_Turner := ⟨pg_Turner, hd_Turner, po_Turner, st_Turner⟩,
    ob_Turner := ⟨⟨pg_Turner, hd_Turner, po_Turner, st_Turner⟩, ha_Turner, oc_n, oc_t, hm_Turner⟩,
    mk_Turner := ⟨mi_Turner, in_Turner, if_Turner___init__, kc_Turner⟩,
    m_Turner___call__ := ⟨at_Turner___call__, if_Turner___call__, k_Turner___call__⟩,
    nf_Turner_letters := nf_Turner_letters,
    nf_Turner_images := nf_Turner_images,
    nf_Turner_size := nf_Turner_size,
    nf_Turner_table := nf_Turner_table,
    io_Turner_Turner := io_Turner_Turner,
    ox_BadWord := OX_BadWord,
    xi_BadWord := xi_BadWord,
    xti_BadWord := xti_BadWord,
    su_BadWord := ⟨OX_BadWord, sp_BadWord, mr_BadWord, sv_BadWord, ⟨_, _, _, ce_BadWord⟩, ⟨_, _, _, _, _, _, co1_BadWord, co2_BadWord, co3_BadWord⟩, op_BadWord, PySem.W.mg_none_of X G z_super, tp_BadWord⟩,
    no_BadWord_word := no_BadWord_word,
    no_BadWord_place := no_BadWord_place,
    xf_BadWord := ⟨ga_BadWord, gg_BadWord, sb_BadWord, hd_BadWord⟩,
    ox_BadText := OX_BadText,
    xi_BadText := xi_BadText,
    xti_BadText := xti_BadText,
    su_BadText := ⟨OX_BadText, sp_BadText, mr_BadText, sv_BadText, ⟨_, _, _, ce_BadText⟩, ⟨_, _, _, _, _, _, co1_BadText, co2_BadText, co3_BadText⟩, op_BadText, PySem.W.mg_none_of X G z_super, tp_BadText⟩,
    no_BadText_line := no_BadText_line,
    xf_BadText := ⟨ga_BadText, gg_BadText, sb_BadText, hd_BadText⟩,
    x_BadLetters := ei_BadLetters,
    k_BadLetters := kc_BadLetters,
    xb_BadLetters := sb_BadLetters,
    xt_BadLetters := ty_BadLetters,
    fi_Turner___call__ := hfi_Turner___call__ }
  exact ⟨_, fun s v => .of_eq rfl, fun base _ _ => ok_law T⟩
theorem walked {l : PySem.W.OpenLaw} {q : Program} {loose : List Str} {XP : (Str → Option Value) → Heap → Prop} {YP : World → Heap → Prop} {d : DefRec} {K : Params → PySem.W.Frag} (hn : l.most = some 63) (hdf : d.params.defaults = [])
    (hY : ∀ (w : World) (j : Heap), YP w j → (K w.params).In j)
    (F : ∀ (w : World) (mg : Str → Option Value) (fa : Addr) (j : Heap), (K w.params).In j → j.Ns mainGlobals mg → mg d.name = some (.ref fa) →
      ∃ fd : FuncData, (∀ (s : Shared) (u : Value), BindsTo s fd ⟨[u], []⟩ [("script", u)]) ∧ ∀ base : Heap, (K w.params).In base → base.Ns mainGlobals mg → FnOk l.prog w (K w.params) mg base CX0 7 fa fd ["script"] (sp_law (K w.params))) :
    PySem.W.WalkO q loose XP YP l.row.toRowW d [] (fun g us => PySem.call g us) :=
  L2.walk_of (n := 63) (k := 7) (x := "script") (CX := fun _ => CX0) (sp := fun w => sp_law (K w.params)) hn (by decide) hdf ⟨rfl, by decide, by decide⟩ hY F (fun _ _ a ns hl _ hS => ⟨a, ns, rfl, hS, hl, fun _ => rfl⟩) fun _ _ _ _ _ z => z
end TY
open PySem PyProof.Rows PySem.W
set_option maxRecDepth 110000 in
set_option maxHeartbeats 0 in
theorem PySem.Challenge.cw_treesfromyes_k87_turner_fits_or_clash_holds : PySem.Challenge.rw_treesfromyes_k87_turner_fits_or_clash.Holds := by
  w_on
  o_law
  k_head
  (case hw => w_witness2)
  k_fill
  refine TY.walked (l := PySem.Challenge.rw_treesfromyes_k87_turner_fits_or_clash) rfl rfl (fun w h Y => PySem.W.kIn_of Y) ?F
  case F =>
    intro w mg fa h KX G hmg
    refine' TY.top_mk KX G hmg ?z_abs ?z_bool ?z_dict ?z_enumerate ?z_int ?z_isinstance ?z_len ?z_list ?z_max ?z_range ?z_super ?z_tuple ?v_SMALL ?v_MOST_KINDS_OF_LETTERS ?g_LanguageError ?g_BadLetters ?g_BadWord ?g_BadText ?g_Turner ?xi_BadWord ?xti_BadWord ?l_BadWord___init__ ?cd_BadWord___init__ ?xi_BadText ?xti_BadText ?l_BadText___init__ ?cd_BadText___init__ ?g_check_letters ?l_check_letters ?c_check_letters ?k_check_letters ?g_check_word ?l_check_word ?c_check_word ?k_check_word ?g_view_at ?l_view_at ?c_view_at ?k_view_at ?in_Turner ?l_Turner___init__ ?c_Turner___init__ ?k_Turner___init__ ?at_Turner___call__ ?l_Turner___call__ ?c_Turner___call__ ?k_Turner___call__ ?g_check_pairs ?l_check_pairs ?c_check_pairs ?k_check_pairs ?g_first_clash ?l_first_clash ?c_first_clash ?k_first_clash ?g_fit_turner ?l_fit_turner ?c_fit_turner ?k_fit_turner ?g__law_start ?l__law_start ?c__law_start ?k__law_start ?g__law_next ?l__law_next ?c__law_next ?k__law_next ?g__law_integer ?l__law_integer ?c__law_integer ?k__law_integer ?g__law_word ?l__law_word ?c__law_word ?k__law_word ?g__law_view ?l__law_view ?c__law_view ?k__law_view ?g__law_image ?l__law_image ?c__law_image ?k__law_image ?g__law_table ?l__law_table ?c__law_table ?k__law_table ?g__law_place ?l__law_place ?c__law_place ?k__law_place ?g__law_clash ?l__law_clash ?c__law_clash ?k__law_clash ?g__law_due_image ?l__law_due_image ?c__law_due_image ?k__law_due_image ?g__law_good_turner ?l__law_good_turner ?c__law_good_turner ?k__law_good_turner ?g__law_spoil ?l__law_spoil ?c__law_spoil ?k__law_spoil ?g__law_first_bad ?l__law_first_bad ?c__law_first_bad ?k__law_first_bad ?g__law_refused ?l__law_refused ?c__law_refused ?k__law_refused ?g_law ?l_law ?c_law ?k_law ?sb_LanguageError ?ty_LanguageError ?hd_LanguageError ?sb_BadLetters ?ty_BadLetters ?hd_BadLetters ?kc_BadLetters ?ga_BadLetters ?gg_BadLetters ?ha_BadLetters ?hm_BadLetters ?su_BadLetters_LanguageError ?ki_BadLetters_BadText ?ki_BadLetters_BadWord ?sb_BadText ?ty_BadText ?hd_BadText ?kc_BadText ?ga_BadText ?gg_BadText ?ha_BadText ?hm_BadText ?su_BadText_LanguageError ?ki_BadText_BadText ?ki_BadText_BadWord ?sb_BadWord ?ty_BadWord ?hd_BadWord ?kc_BadWord ?ga_BadWord ?gg_BadWord ?ha_BadWord ?hm_BadWord ?su_BadWord_LanguageError ?ki_BadWord_BadText ?ki_BadWord_BadWord ?pg_Turner ?hd_Turner ?po_Turner ?st_Turner ?mi_Turner ?kc_Turner ?ha_Turner ?hm_Turner ?if_Turner___init__ ?if_Turner___call__ ?nf_Turner_letters ?nf_Turner_images ?nf_Turner_size ?nf_Turner_table ?io_Turner_Turner ?oc_n ?oc_t ?x_BadWord ?rv_BadWord ?sa_BadWord ?sp_BadWord ?mr_BadWord ?sv_BadWord ?ce_BadWord ?co1_BadWord ?co2_BadWord ?co3_BadWord ?op_BadWord ?tp_BadWord ?no_BadWord_word ?no_BadWord_place ?x_BadText ?rv_BadText ?sa_BadText ?sp_BadText ?mr_BadText ?sv_BadText ?ce_BadText ?co1_BadText ?co2_BadText ?co3_BadText ?op_BadText ?tp_BadText ?no_BadText_line ?ei_BadLetters ?hfi_Turner___call__
    (case z_abs => k_is)
    (case z_bool => k_is)
    (case z_dict => k_is)
    (case z_enumerate => k_is)
    (case z_int => k_is)
    (case z_isinstance => k_is)
    (case z_len => k_is)
    (case z_list => k_is)
    (case z_max => k_is)
    (case z_range => k_is)
    (case z_super => k_is)
    (case z_tuple => k_is)
    (case v_SMALL => k_is)
    (case v_MOST_KINDS_OF_LETTERS => k_is)
    (case g_LanguageError => k_is)
    (case g_BadLetters => k_is)
    (case g_BadWord => k_is)
    (case g_BadText => k_is)
    (case g_Turner => k_is)
    (case xi_BadWord => k_is)
    (case xti_BadWord => k_is)
    (case l_BadWord___init__ => k_is)
    (case cd_BadWord___init__ => k_is)
    (case xi_BadText => k_is)
    (case xti_BadText => k_is)
    (case l_BadText___init__ => k_is)
    (case cd_BadText___init__ => k_is)
    (case g_check_letters => k_is)
    (case l_check_letters => k_is)
    (case c_check_letters => k_is)
    (case k_check_letters => k_is)
    (case g_check_word => k_is)
    (case l_check_word => k_is)
    (case c_check_word => k_is)
    (case k_check_word => k_is)
    (case g_view_at => k_is)
    (case l_view_at => k_is)
    (case c_view_at => k_is)
    (case k_view_at => k_is)
    (case in_Turner => k_is)
    (case l_Turner___init__ => k_is)
    (case c_Turner___init__ => k_is)
    (case k_Turner___init__ => k_is)
    (case at_Turner___call__ => k_is)
    (case l_Turner___call__ => k_is)
    (case c_Turner___call__ => k_is)
    (case k_Turner___call__ => k_is)
    (case g_check_pairs => k_is)
    (case l_check_pairs => k_is)
    (case c_check_pairs => k_is)
    (case k_check_pairs => k_is)
    (case g_first_clash => k_is)
    (case l_first_clash => k_is)
    (case c_first_clash => k_is)
    (case k_first_clash => k_is)
    (case g_fit_turner => k_is)
    (case l_fit_turner => k_is)
    (case c_fit_turner => k_is)
    (case k_fit_turner => k_is)
    (case g__law_start => k_is)
    (case l__law_start => k_is)
    (case c__law_start => k_is)
    (case k__law_start => k_is)
    (case g__law_next => k_is)
    (case l__law_next => k_is)
    (case c__law_next => k_is)
    (case k__law_next => k_is)
    (case g__law_integer => k_is)
    (case l__law_integer => k_is)
    (case c__law_integer => k_is)
    (case k__law_integer => k_is)
    (case g__law_word => k_is)
    (case l__law_word => k_is)
    (case c__law_word => k_is)
    (case k__law_word => k_is)
    (case g__law_view => k_is)
    (case l__law_view => k_is)
    (case c__law_view => k_is)
    (case k__law_view => k_is)
    (case g__law_image => k_is)
    (case l__law_image => k_is)
    (case c__law_image => k_is)
    (case k__law_image => k_is)
    (case g__law_table => k_is)
    (case l__law_table => k_is)
    (case c__law_table => k_is)
    (case k__law_table => k_is)
    (case g__law_place => k_is)
    (case l__law_place => k_is)
    (case c__law_place => k_is)
    (case k__law_place => k_is)
    (case g__law_clash => k_is)
    (case l__law_clash => k_is)
    (case c__law_clash => k_is)
    (case k__law_clash => k_is)
    (case g__law_due_image => k_is)
    (case l__law_due_image => k_is)
    (case c__law_due_image => k_is)
    (case k__law_due_image => k_is)
    (case g__law_good_turner => k_is)
    (case l__law_good_turner => k_is)
    (case c__law_good_turner => k_is)
    (case k__law_good_turner => k_is)
    (case g__law_spoil => k_is)
    (case l__law_spoil => k_is)
    (case c__law_spoil => k_is)
    (case k__law_spoil => k_is)
    (case g__law_first_bad => k_is)
    (case l__law_first_bad => k_is)
    (case c__law_first_bad => k_is)
    (case k__law_first_bad => k_is)
    (case g__law_refused => k_is)
    (case l__law_refused => k_is)
    (case c__law_refused => k_is)
    (case k__law_refused => k_is)
    (case g_law => k_is)
    (case l_law => k_is)
    (case c_law => k_is)
    (case k_law => k_is)
    (case sb_LanguageError => k_is)
    (case ty_LanguageError => k_is)
    (case hd_LanguageError => k_is)
    (case sb_BadLetters => k_is)
    (case ty_BadLetters => k_is)
    (case hd_BadLetters => k_is)
    (case kc_BadLetters => k_is)
    (case ga_BadLetters => k_is)
    (case gg_BadLetters => k_is)
    (case ha_BadLetters => k_is)
    (case hm_BadLetters => k_is)
    (case su_BadLetters_LanguageError => first | rfl | k_is)
    (case ki_BadLetters_BadText => kit_is)
    (case ki_BadLetters_BadWord => kit_is)
    (case sb_BadText => k_is)
    (case ty_BadText => k_is)
    (case hd_BadText => k_is)
    (case kc_BadText => k_is)
    (case ga_BadText => k_is)
    (case gg_BadText => k_is)
    (case ha_BadText => k_is)
    (case hm_BadText => k_is)
    (case su_BadText_LanguageError => first | rfl | k_is)
    (case ki_BadText_BadText => kit_is)
    (case ki_BadText_BadWord => kit_is)
    (case sb_BadWord => k_is)
    (case ty_BadWord => k_is)
    (case hd_BadWord => k_is)
    (case kc_BadWord => k_is)
    (case ga_BadWord => k_is)
    (case gg_BadWord => k_is)
    (case ha_BadWord => k_is)
    (case hm_BadWord => k_is)
    (case su_BadWord_LanguageError => first | rfl | k_is)
    (case ki_BadWord_BadText => kit_is)
    (case ki_BadWord_BadWord => kit_is)
    (case pg_Turner => k_is)
    (case hd_Turner => k_is)
    (case po_Turner => k_is)
    (case st_Turner => k_is)
    (case mi_Turner => k_is)
    (case kc_Turner => k_is)
    (case ha_Turner => k_is)
    (case hm_Turner => k_is)
    (case if_Turner___init__ => k_is)
    (case if_Turner___call__ => k_is)
    (case nf_Turner_letters => k_is)
    (case nf_Turner_images => k_is)
    (case nf_Turner_size => k_is)
    (case nf_Turner_table => k_is)
    (case io_Turner_Turner => kit_is)
    (case oc_n => k_is)
    (case oc_t => k_is)
    (case x_BadWord => k_is)
    (case rv_BadWord => rfl)
    (case sa_BadWord => k_is)
    (case sp_BadWord => ks_is)
    (case mr_BadWord => k_is)
    (case sv_BadWord => k_is)
    (case ce_BadWord => k_is)
    (case co1_BadWord => k_is)
    (case co2_BadWord => rfl)
    (case co3_BadWord => rfl)
    (case op_BadWord => k_is)
    (case tp_BadWord => rfl)
    (case no_BadWord_word => k_is)
    (case no_BadWord_place => k_is)
    (case x_BadText => k_is)
    (case rv_BadText => rfl)
    (case sa_BadText => k_is)
    (case sp_BadText => ks_is)
    (case mr_BadText => k_is)
    (case sv_BadText => k_is)
    (case ce_BadText => k_is)
    (case co1_BadText => k_is)
    (case co2_BadText => rfl)
    (case co3_BadText => rfl)
    (case op_BadText => k_is)
    (case tp_BadText => rfl)
    (case no_BadText_line => k_is)
    (case ei_BadLetters => k_exc)
    (case hfi_Turner___call__ => k_is)

