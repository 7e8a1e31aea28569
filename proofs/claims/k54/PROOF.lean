import PyProof.Rows.All
import Wide.All
import OpenK.AllK
import Wide.FinOn
import KE.OsGo
import HandS.ForMost
import HandS.ForExc
import HandS.FStr
import HandS.IsInst
import HandS.TupAny
import HandS.TupLe
import HandS.Style
import HandS.Flow
import HandS.Codes
import HandS.Steps
import PyProof.Rows.TmTac
import HandS.ExcInit
import HandS.ExcSuper
import KE.KExcSuper
import KE.GoesRaise
import HandS.Iter
import KE.GoesEnumKw
import HandS.Walk
import HandS.Words
import HandS.SortInts
import HandS.ReplaceLit
import HandS.ReplaceDef
import HandS.ExcField
import HandS.Deep
import HandS.Text
import PySem.Challenge.RW_sheetsofcells_k54_papers_as_lines
import HandS.Evl
import HandS.Ends
import KE.RegKSuper
set_option Elab.async false
set_option linter.all false
set_option maxRecDepth 100000
set_option maxHeartbeats 4000000
namespace L3
open PySem PySem.Spec PyProof.Rows L2

/-! ### rules that do not ask for kinds -/
section
variable {X : Cx}
theorem PIor {tg iter : Expr} {wi wj : TI} (h : PI X tg iter wi) (h' : PI X tg iter wj) : PI X tg iter (fun σ H R => wi σ H R ∨ wj σ H R) := by
  refine ⟨fun pins s σ H R I h2 => ?_⟩
  rcases h2 with q | q
  · exact h.run pins s σ H R I q
  · exact h'.run pins s σ H R I q
/-- x is True, x is False -/
theorem op_isC : OpR X (compareOp .Is) (fun x y H Q => ∃ b : Bool, y = .bl b ∧ Q (.bl (decide (x = .bl b))) H) := by
  intro pins s σ H x y v u Q I rx ry h
  obtain ⟨b, rfl, q⟩ := h
  cases (show u = Value.bool b from ry)
  cases x with
  | bl a =>
    cases (show v = Value.bool a from rx)
    by_cases e : a = b
    · subst e
      exact wpAny_is_self rfl ⟨.bl true, H, I, rfl, by simpa using q⟩
    · exact wpAny_is_other rfl (fun z => e (Value.bool.inj z)) ⟨.bl false, H, I, rfl, by simpa [e] using q⟩
  | non =>
    cases rx
    exact wpAny_is_other rfl (fun z => nomatch z) ⟨.bl false, H, I, rfl, q⟩
  | int i =>
    obtain ⟨t, rfl⟩ := rx
    exact wpAny_is_other rfl (fun z => nomatch z) ⟨.bl false, H, I, rfl, q⟩
  | str i =>
    obtain ⟨t, rfl⟩ := rx
    exact wpAny_is_other rfl (fun z => nomatch z) ⟨.bl false, H, I, rfl, q⟩
  | byt i =>
    obtain ⟨t, rfl⟩ := rx
    exact wpAny_is_other rfl (fun z => nomatch z) ⟨.bl false, H, I, rfl, q⟩
  | flt i =>
    obtain ⟨t, rfl⟩ := rx
    exact wpAny_is_other rfl (fun z => nomatch z) ⟨.bl false, H, I, rfl, q⟩
  | ref i =>
    cases rx
    exact wpAny_is_other rfl (fun z => nomatch z) ⟨.bl false, H, I, rfl, q⟩
  | ty i =>
    cases rx
    exact wpAny_is_other rfl (fun z => nomatch z) ⟨.bl false, H, I, rfl, q⟩
def rIsAny : R2 := fun x y H Q => (y = .non ∧ Q (.bl (decide (x = .non))) H) ∨ ∃ b : Bool, y = .bl b ∧ Q (.bl (decide (x = .bl b))) H
theorem opIs : OpR X (compareOp .Is) rIsAny := op_isN.or op_isC
theorem opIsNot : OpR X (compareOp .IsNot) (fun x y H Q => y = .non ∧ Q (.bl (!decide (x = .non))) H) := op_notN
/-- a + b -/
def rAddAny (K : PySem.W.Frag) : R2 := fun x y H Q => (∃ i j, x = .int i ∧ y = .int j ∧ Q (.int (i + j)) H) ∨ (∃ i j, x = .str i ∧ y = .str j ∧ i.length + j.length ≤ sizeLine ∧ Q (.str (i ++ j)) H) ∨ rCat x y H Q ∨ rCatA K x y H Q
theorem opAdd : OpR X (binaryOp .Add) (rAddAny X.K) := OpR.or op_add (OpR.or op_add_str (OpR.or op_cat op_catA))
/-- a * b -/
def rMulAny : R2 := fun x y H Q => rI CMul (fun i j => .int (i * j)) x y H Q ∨ rRep x y H Q
theorem opMul : OpR X (binaryOp .Mult) rMulAny := OpR.or op_mul op_rep
/-- == of scalars -/
theorem opEq : OpR X (compareOp .Eq) rEq := op_eq
theorem opNe : OpR X (compareOp .NotEq) rNe := op_ne
/-- in -/
def rInAny (K : PySem.W.Frag) : R2 := fun x y H Q => (∃ (c : Nat) (z : Str), x = .str ⟨#[c]⟩ ∧ y = .str z ∧ Q (.bl (decide (c ∈ z.cps.toList))) H) ∨ rIn K false x y H Q
def rNotInAny (K : PySem.W.Frag) : R2 := fun x y H Q => (∃ (c : Nat) (z : Str), x = .str ⟨#[c]⟩ ∧ y = .str z ∧ Q (.bl (!decide (c ∈ z.cps.toList))) H) ∨ rIn K true x y H Q
theorem opIn : OpR X (compareOp .In) (rInAny X.K) := OpR.or op_in_sign op_in_seq
theorem opNotIn : OpR X (compareOp .NotIn) (rNotInAny X.K) := OpR.or op_notIn_sign op_notIn_seq
/-- slices -/
def rSlAny (K : PySem.W.Frag) : V → Option Int → Option Int → Hp → VK → Prop := fun x lo hi H Q => rSlL K x lo hi H Q ∨ rSlA K x lo hi H Q ∨ rSlS x lo hi H Q
theorem slAny : SlR X (rSlAny X.K) := SlR.or sl_list (SlR.or sl_tupA sl_str)
/-- what is walked -/
def iAny (K : PySem.W.Frag) (te : TE) : TI := fun σ H R => iList K te σ H R ∨ iTup K te σ H R ∨ iStr te σ H R
theorem pi_any {tg e : Expr} {te : TE} (he : PE X e te) : PI X tg e (iAny X.K te) := PIor (pi_list he) (PIor (pi_tup he) (pi_str he))
/-- int(x) -/
def rIntOf : List V → Hp → VK → Prop := fun xs H Q => ((∃ i, xs = [.int i] ∧ Q (.int i) H) ∨ ∃ k, xs = [.bl k] ∧ Q (.int (if k then 1 else 0)) H) ∨ ∃ a n, xs = [.str a] ∧ PySem.intText? a = some n ∧ a.length ≤ 640 ∧ Q (.int n) H
theorem call_intOf : CallR X (.type "int") rIntOf := CallR.or call_int1 call_int_str
def tTruA (K : PySem.W.Frag) (ta : TE) : TT := fun σ H Q => ta σ H fun x H' => ∃ k, TruV K x H' k ∧ Q k H'
theorem pe_gl {x : Str} {pos : Pos} {v : V} (hg : Gl X x) (h : ∃ u, X.mg x = some u ∧ RelV v u) (hd : (x == ("__debug__" : Str)) = false := by decide) : PE X (.Name x pos) (tC v) := by
  obtain ⟨u, hm, r⟩ := h
  exact pe_glob hg hm r hd
theorem pt_tru {a : Expr} {ta : TE} (ha : PE X a ta) (he : ∀ whole, isTrue a X.env whole = (do let v ← whole; standAt a.pos; holding [v] (truthy v)) := by intro _; rfl) : PT X a (tTruA X.K ta) := pt_truth ha he
end
end L3

namespace L3
open PySem PySem.Spec PyProof.Rows L2
/-! ### readings step by step -/
section
variable {σ : L2.St} {H : Hp} {D : Ends} {c : TT} {t1 t2 : TS} {te : TE} {i : Nat} {v : V}
theorem st_if (P : Prop) [Decidable P] (hc : Ans c σ H (decide P)) (h1 : P → t1 D σ H) (h2 : ¬ P → t2 D σ H) : tIfS c t1 t2 D σ H := by
  by_cases hP : P
  · rw [decide_eq_true hP] at hc
    exact st_yes hc (h1 hP)
  · rw [decide_eq_false hP] at hc
    exact st_no hc (h2 hP)
theorem st_ifB (b : Bool) (hc : Ans c σ H b) (h1 : b = true → t1 D σ H) (h2 : b = false → t2 D σ H) : tIfS c t1 t2 D σ H := by
  cases b with
  | true => exact st_yes hc (h1 rfl)
  | false => exact st_no hc (h2 rfl)
end
end L3

namespace L3
open PySem PySem.Spec PyProof.Rows L2 PySem.W

/-- names of a def with super(): its parameters local, __class__ captured -/
structure SupScope (N P : List Str) (sc : Scope) : Prop where
  kind : sc.kind = .function
  co : sc.isCoroutine = false
  gen : sc.isGenerator = false
  nd : N.Nodup
  pre : N.take P.length = P
  par : ∀ x ∈ P, sc.names.lookup x = some .local
  cls : sc.names.lookup ("__class__" : Str) = some .free
  sup : sc.names.lookup ("super" : Str) = some .globalImplicit
  only : ∀ y ∈ sc.names, y.2 = .free → y.1 = ("__class__" : Str)
  nocell : ∀ y ∈ sc.names, y.2 ≠ .cell

theorem lookup_zip_rev : ∀ {P : List Str} {us : List Value} {i : Nat} {x : Str} {u : Value}, P.Nodup → P[i]? = some x → us[i]? = some u → ((P.zip us).reverse).lookup x = some u
  | [], _, _, _, _, _, h, _ => by simp at h
  | _ :: _, [], _, _, _, _, _, h => by simp at h
  | p :: P, w :: us, 0, x, u, nd, h1, h2 => by
    simp at h1 h2
    subst h1
    subst h2
    rw [List.zip_cons_cons, List.reverse_cons, List.lookup_append]
    have : ((P.zip us).reverse).lookup p = none := by
      rw [List.lookup_eq_none_iff]
      intro y hy
      obtain ⟨a, b⟩ := y
      have hm : a ∈ P := (List.of_mem_zip (List.mem_reverse.mp hy)).1
      have : p ≠ a := fun e => (List.nodup_cons.mp nd).1 (e ▸ hm)
      simpa using this
    rw [this]
    simp [List.lookup]
  | p :: P, w :: us, i + 1, x, u, nd, h1, h2 => by
    rw [List.zip_cons_cons, List.reverse_cons, List.lookup_append]
    rw [lookup_zip_rev (i := i) (List.nodup_cons.mp nd).2 (by simpa using h1) (by simpa using h2)]
    rfl

def cxS (CX : CXT) (P : Program) (w : World) (K : PySem.W.Frag) (mg : Str → Option Value) (base : Heap) (N : List Str) (qual : Str) (scope : Scope) (f : Addr) (cd : Value) (cc : Addr) (A : Around) (outer : List Env) (s : Shared) (H : Hp) (E : XK) : Cx where
  prog := P
  w := w
  K := K
  mg := mg
  base := base
  A := A.deeper (ksEnv qual scope s.heap.objs.size f cd cc)
  N := N
  s_0 := s
  H_0 := H
  env := ksEnv qual scope s.heap.objs.size f cd cc
  outer := outer
  stack := ksEnv qual scope s.heap.objs.size f cd cc :: outer
  ex := []
  calm := true
  fn := fun _ => false
  pn := []
  xe := fun e s' => wpAny (model P w) (A.deeper (ksEnv qual scope s.heap.objs.size f cd cc)) (leaving (ksEnv qual scope s.heap.objs.size f cd cc) e) (fun _ s'' => CX outer H s E e s'') (fun e' s'' => CX outer H s E e' s'') s'

theorem inv_startS {CX : CXT} {P : Program} {w : World} {K : PySem.W.Frag} {mg : Str → Option Value} {base : Heap} {N ps : List Str} {qual : Str} {scope : Scope} {f cc D : Addr} {cd cl : Value} {cld : Option Addr} {csl : Array (Option Value)} {A : Around} {outer : List Env} {s : Shared} {H : Hp} {E : XK} {us : List Value} {vs : List V} {h₀ : Heap} {tk : Nat}
    (S : SupScope N ps scope) (hd : A.handled = none) (e0 : Env0 P w K mg base A outer s H) (hl : vs.length = ps.length) (r : Vals vs us) (hcell : K.lookup cc = some ⟨cl, cld, .cell (some (.ref D)), csl⟩)
    (hns : h₀.Ns s.heap.objs.size (fun x => (ps.zip us).reverse.lookup x)) (hk : ∀ b o, s.heap.get? b = some o → h₀.get? b = some o) :
    Inv (cxS CX P w K mg base N qual scope f cd cc A outer s H E) [] (start N vs) H { s with heap := h₀, toks := tk } := by
  have hpl : ps.length ≤ N.length := by have := congrArg List.length S.pre; rw [List.length_take] at this; omega
  have noA : ∀ b : Addr, b ∉ (cxS CX P w K mg base N qual scope f cd cc A outer s H E).ex := fun b z => absurd (show b ∈ ([] : List Addr) from z) (by simp)
  have cellsL : ∀ {x : Str} {c : Addr}, ([(("__class__" : Str), cc)] : List (Str × Addr)).lookup x = some c → x = ("__class__" : Str) ∧ c = cc := fun {x c} h => by
    by_cases e : x = ("__class__" : Str)
    · subst e
      simp [List.lookup] at h
      exact ⟨rfl, h.symm⟩
    · have e' : (x == ("__class__" : Str)) = false := by simpa using e
      simp [List.lookup, e'] at h
  have kc : base.get? cc = some ⟨cl, cld, .cell (some (.ref D)), csl⟩ := e0.mod.kin _ _ hcell
  refine ⟨⟨e0.mod, S.kind, rfl, rfl, Nat.le_refl _, fun y z c h1 h2 => ?_, fun y hy => ?_, fun y c h _ => Bool.noConfusion h, fun _ => hd, Around.frames_deeper e0.frames, .inr ⟨rfl, rfl⟩, fun b z => absurd z (noA b), e0.bs, e0.bsz, fun b _ _ => noA b, fun b z => absurd z (noA b), e0.funs, e0.frf⟩,
    rfl, e0.bare, Un.kept hk, ⟨_, hns, fun i y v h1 h2 h3 => ?_⟩, fun y c h => ?_, e0.hok.fresh (Nat.le_refl _), fun y c h => ?_, fun p hp => absurd (show p ∈ ([] : List (Addr × Obj)) from hp) (by simp), e0.hok.kept hk, ?_⟩
  · exact (cellsL h1).1.trans (cellsL h2).1.symm
  · have hy : scope.names.lookup y = some .cell ∨ scope.names.lookup y = some .free := hy
    rcases hy with hy | hy
    · exact absurd rfl (S.nocell _ (PySem.mem_of_lookup hy))
    · have e := S.only _ (PySem.mem_of_lookup hy) rfl
      refine ⟨cc, ?_⟩
      show ([(("__class__" : Str), cc)] : List (Str × Addr)).lookup y = some cc
      have e : y = ("__class__" : Str) := e
      rw [e]
      simp [List.lookup]
  · have hi : i < vs.length := by
      unfold L2.start at h2
      by_cases hi : i < vs.length
      · exact hi
      · rw [List.getElem?_append_right (by simpa using hi)] at h2
        rw [List.getElem?_replicate] at h2
        split at h2 <;> cases h2
    have ha : vs[i]? = some v := by
      unfold L2.start at h2
      rw [List.getElem?_append_left (by simpa using hi), List.getElem?_map] at h2
      cases e : vs[i]? with
      | none => rw [e] at h2; cases h2
      | some a => rw [e] at h2; cases h2; rfl
    obtain ⟨u, hu, rv⟩ := r.get ha
    have hp : ps[i]? = some y := by
      rw [← S.pre, List.getElem?_take_of_lt (by omega)]; exact h1
    have ndP : ps.Nodup := by rw [← S.pre]; exact S.nd.sublist (List.take_sublist _ _)
    exact ⟨u, rv, .inl ⟨S.par y (List.mem_of_getElem? hp), lookup_zip_rev ndP hp hu⟩⟩
  · obtain ⟨_, rfl⟩ := cellsL h
    exact ⟨_, _, hk _ _ ((e0.bs _ _ kc).1), rfl⟩
  · obtain ⟨_, rfl⟩ := cellsL h
    exact (e0.bs _ _ kc).2
  · unfold L2.start
    show _ = N.length
    rw [List.length_append, List.length_map, List.length_replicate]
    omega

/-- ValueError.__init__ bound to the exception at e, called -/
theorem call_bwV {prog : Program} {w : World} {A : Around} {E : Value → Shared → Prop} {h : Heap} {g : Array GenState} {d : Drawn} {t : Nat} {os : OsState}
    {nm q : Str} {C N : Addr} {bs bm : List Value} {hdct : Bool} {sn : List Str} {sub : List Value} {ab : Bool} {col : Option Bool} {dd : Option Addr} {k0 k1 k2 k3 k5 : Option Value} {u e t0 : Addr} {rest : List Value} {Q : Value → Shared → Prop}
    (hC : h.get? C = some (excClassObj nm q C N bs bm hdct sn sub ab col dd k0 k1 k2 k3 k5 "ValueError.__new__")) (he : h.get? e = some (HandSPX.excO C t0)) (hu : h.get? u = some (kxs_mw "ValueError.__init__" e)) (hrest : rest.length ≤ sizeLine)
    (hq : ∀ h' t1, (∀ b o, b ≠ e → h.get? b = some o → h'.get? b = some o) → h'.get? e = some (HandSPX.excO C t1) → Q .none ⟨h', g, d, t, os⟩) :
    wpAny (model prog w) A (call (.ref u) rest) Q E ⟨h, g, d, t, os⟩ := by
  refine wpAny_call (codeAny_of_tree ?_)
  show wpAny _ A.in1 (callAny (.ref u) ⟨rest, []⟩) _ _ _
  simp only [callAny]
  refine wpAny_bind (wpAny_load hu ?_)
  simp only [kxs_mw, show (Value.type "method-wrapper" == Value.type "method" || Value.type "method-wrapper" == Value.type "builtin_function_or_method" || Value.type "method-wrapper" == Value.type "method-wrapper") = true by decide, if_true]
  refine KFB.if_so (by decide) ?_
  refine wpAny_bind (check_bound_init F.excBase_ValueError.toExcCallFacts hC he rfl ?_)
  refine wpAny_bind (wpAny_pure (wpAny_pure ?_))
  refine ⟨Code.quiet_builtin _ (by decide +kernel), codeAny_builtin F.excBase_ValueError.initEntry ?_⟩
  rw [Around.under_plainId F.excBase_ValueError.init.plain _]
  wp_walk
  refine hq _ h.objs.size (fun b o hb ho => ?_) ?_
  · rw [Heap.get?_update_other _ _ (Ne.symm hb)]
    exact Heap.get?_push_of_some _ ho
  · rw [Heap.get?_update_self _ (Heap.get?_push_of_some _ he) rfl]
    rfl

/-- what the written part says of the class at C and of its __init__ at f -/
structure SupTxt (P : Program) (K : PySem.W.Frag) (mg : Str → Option Value) (C : Addr) : Prop where
  ox : OexC K C
  noSup : mg "super" = none
  find : ks_superIn K C C "__init__" = some (some (.builtin "ValueError.__init__"))
  opq : nsIn K cStatics "thirdparty.any" = some none
  subV : subIn K (.ref C) (.type "ValueError") = some true
  mroC : mroIn K C (.ref C) = some true
  noTop : (P.main.scope.names.lookup ("super" : Str)).isSome = false

theorem fn_sup {CX : CXT} {P : Program} {w : World} {K : PySem.W.Frag} {mg : Str → Option Value} {base : Heap} {k : Nat} {f cc C cda : Addr} {name qual : Str} {params : Arguments} {rest : List Stmt} {scope : Scope} {dV kV doc pm ct oc ccl cl : Value} {an od cdd cld : Option Addr}
    {osl ccs csl : Array (Option Value)} {vs0 : Array Value} {file : Str} {tf : Tok} {N ps : List Str} {sp : Sp} {ar : Arg} {a : Expr} {p0 p1 p2 p3 p4 : Pos}
    (T : SupTxt P K mg C)
    (lk : K.lookup f = some ⟨oc, od, .func (ksFn name qual params (.Expr (.Call (.Attribute (.Call (.Name "super" p0) [] [] p1) "__init__" p2) [a] [] p3) p4 :: rest) scope dV kV doc pm an (.ref cda) ct cc), osl⟩)
    (hcd : codeIn K (.ref cda) qual = true) (hcode : K.lookup cda = some ⟨ccl, cdd, .fields vs0, ccs⟩) (hvs : vs0[2]? = some (.str file tf)) (hfile : ((P.main.file : Str) == file) = true)
    (hcell : K.lookup cc = some ⟨cl, cld, .cell (some (.ref C)), csl⟩)
    (S : SupScope N ps scope) (hp : (params.posonlyargs ++ params.args).head? = some ar) (hp0 : ps[0]? = some ar.arg)
    (len : ∀ vs H Q E, sp vs H Q E → vs.length = ps.length)
    (hst : ∀ (L : Addr), starEach [a] (ksEnv qual scope L f (.ref cda) cc) = (false, eval a (ksEnv qual scope L f (.ref cda) cc)) :: starEach [] (ksEnv qual scope L f (.ref cda) cc))
    (hint : ∀ (L : Addr), interactive (ksEnv qual scope L f (.ref cda) cc) = false)
    (hev : ∀ (L : Addr), ∃ pl : Sem Bool, eval (.Call (.Attribute (.Call (.Name "super" p0) [] [] p1) "__init__" p2) [a] [] p3) (ksEnv qual scope L f (.ref cda) cc) = (do
      let ov ← attributeBase (.Call (.Name "super" p0) [] [] p1) "__init__" (ksEnv qual scope L f (.ref cda) cc) (eval (.Call (.Name "super" p0) [] [] p1) (ksEnv qual scope L f (.ref cda) cc))
      standAt p2.atName
      let (f0, first) ← holding [ov] (getMethod ov "__init__" pl)
      callWith p3 f0 first (backTo p3 (starEach [a] (ksEnv qual scope L f (.ref cda) cc))) []))
    (hbody : ∀ (A : Around) (outer : List Env) (s : Shared) (H : Hp) (vs : List V) (Q : VK) (E : XK), Room k (A.deeper (ksEnv qual scope s.heap.objs.size f (.ref cda) cc)) → sp vs H Q E →
      ∃ ta t self, vs[0]? = some (.ref self) ∧ H self = some (exo self C none) ∧ PA (cxS CX P w K mg base N qual scope f (.ref cda) cc A outer s H E) [a] ta ∧ PSs (cxS CX P w K mg base N qual scope f (.ref cda) cc A outer s H E) rest t ∧
        ta (L2.start N vs) H (fun ws H1 => ws.length ≤ 10 ∧ H1 self = some (exo self C none) ∧ t { nx := fun _ H' => Q .non H', rt := Q } (L2.start N vs) H1)) :
    FnOk P w K mg base CX (k + 1) f (ksFn name qual params (.Expr (.Call (.Attribute (.Call (.Name "super" p0) [] [] p1) "__init__" p2) [a] [] p3) p4 :: rest) scope dV kV doc pm an (.ref cda) ct cc) ps sp := by
  refine ⟨len, fun A outer s H args us vs Q E hr e0 hb r hsp => ?_⟩
  have hl := len _ _ _ _ hsp
  have KX : K.In s.heap := e0.mod.kin.keeps fun b o e => (e0.bs b o e).1
  have lim : s.heap.NoLimit := e0.mod.nolimit.keeps fun b o e => (e0.bs b o e).1
  obtain ⟨ta, t, self, hs0, hself, hta, ht, hq⟩ := hbody A outer s H vs Q E (hr.deeper _) hsp
  have hloc : ∀ y ∈ ps.zip us, scope.names.lookup y.1 = some .local := fun ⟨n, v⟩ hy => S.par n (List.of_mem_zip hy).1
  refine ks_codeAny_call_defAt (binds := ps.zip us) hr.depth (KX _ _ lk) rfl lim (PySem.W.codeRec_of KX hcd) rfl hb S.nocell hloc (fun h₀ hns hk => ?_) S.co S.gen S.kind
  have I := inv_startS (CX := CX) (P := P) (w := w) (mg := mg) (qual := qual) (f := f) (cd := .ref cda) (E := E) (tk := s.toks + (ps.zip us).length) S hr.hd e0 hl r hcell hns hk
  obtain ⟨nm, q, Nn, bs, bm, sn, sub, ab, col, dd, k0, k1, k2, k3, k5, hC, hbm⟩ := T.ox.cls
  obtain ⟨t1, hox⟩ := exo_at I.hok hself
  obtain ⟨u0, hu0, ru0⟩ := r.get hs0
  cases ru0
  have hv0 : (ps.zip us).reverse.lookup ar.arg = some (.ref self) := lookup_zip_rev (by rw [← S.pre]; exact S.nd.sublist (List.take_sublist _ _)) hp0 hu0
  have X0 : K.In h₀ := KX.keeps hk
  have bk : ∀ b o, base.get? b = some o → h₀.get? b = some o := fun b o e => hk b o (e0.bs b o e).1
  obtain ⟨mb, hmb, hmb2⟩ := e0.mod.blt
  generalize hL : s.heap.objs.size = L at *
  show _root_.PySem.wpAt (model P w) (A.deeper (ksEnv qual scope L f (.ref cda) cc)) (.func _ (ksEnv qual scope L f (.ref cda) cc)) (execs _ (ksEnv qual scope L f (.ref cda) cc)) _ _ _
  obtain ⟨pl, hev⟩ := hev L
  refine ks_wpAt_execs_cons (ks_wpAt_Expr_any (ks_wpAt_MethodCall (pl := pl) ?_ hev) (hint L))
  refine ks_wpAt_super_base (f := f) (ar := ar) S.sup S.cls (by decide +kernel) rfl (X0 _ _ lk) rfl hp rfl (X0 _ _ hcode) rfl hvs hfile T.noTop ?_
  refine ks_loadName_global S.kind S.sup (PySem.Calls.loadGlobal_builtin (e0.mod.glob.keeps bk) T.noSup (hmb.keeps bk) (hmb2 _ (by decide)) ⟨rfl, ?_⟩)
  refine wpAny_loadName_free S.kind S.cls rfl ⟨_, X0 _ _ hcell, rfl⟩ ?_
  refine wpAny_loadName_local S.kind (S.par _ (List.mem_of_getElem? hp0)) hns hv0 ?_
  have hCh := X0 _ _ hC
  refine ks_wpAny_isType_cls hCh rfl ⟨rfl, ?_⟩
  have LT : Looks (model P w) h₀ (isSubtype (.ref C) (.ref C)) true := looks_mroIn X0 T.mroC
  obtain ⟨sh, sg, sd, stk, sos⟩ := s
  refine ks_wpAny_call_super hCh rfl hox rfl (fun c e => nomatch e) LT (fun h1 e1 kk1 => ?_)
  have hclC : clsIn K C = some { name := nm, bases := bs, mro := .ref C :: bm, ns := Nn, qualname := q, hasDict := true, slotNames := sn, subclasses := sub, abstract := ab, collection := col, hasDel := false } := by unfold PySem.W.clsIn; rw [hC] <;> rfl
  have X1 : K.In h1 := X0.keeps kk1
  have hox1 := kk1 _ _ hox
  have IA1 : InstAt h1 self ({ cls := .ref C, dict := none, data := .fields #[.ref t1, .none, .none, .none, .bool false, .none] } : Obj) C none := ⟨hox1, rfl, rfl, trivial⟩
  have hal : alongIn K "__init__" (((Value.ref C :: bm).dropWhile (· != .ref C)).drop 1) = some (some (.builtin "ValueError.__init__")) := by
    have z := T.find
    unfold ks_superIn at z
    rw [hclC] at z
    exact z
  refine kxs_getMethod kxs_ValueError e1 (looks_opaque X1 T.opq) (l₀ := Value.ref C :: bm) (fun A Q E s k q => wpAny_bind ((looks_clsIn X1 hclC) A _ E s k (wpAny_pure q))) rfl X1 hal (IA1.type.andThen (looks_subIn X1 T.subV)) (ks_ne X1 IA1 hclC) (by decide +kernel) ?_
  have I1 : L2.Inv (cxS CX P w K mg base N qual scope f (.ref cda) cc A outer ⟨sh, sg, sd, stk, sos⟩ H E) [] (L2.start N vs) H { heap := h1, gens := sg, drawn := sd, toks := stk + (ps.zip us).length, os := sos } := I.kept (t' := stk + (ps.zip us).length) kk1
  have I2 := I1.kept (t' := stk + (ps.zip us).length + 1) (h' := h1.push (kxs_mw "ValueError.__init__" self)) fun b o e => Heap.get?_push_of_some _ e
  have hmw : (h1.push (kxs_mw "ValueError.__init__" self)).get? h1.objs.size = some (kxs_mw "ValueError.__init__" self) := Heap.get?_push_at rfl rfl
  have nu : H h1.objs.size = none := I1.hok.fresh (Nat.le_refl _)
  have I3 : L2.Inv (cxS CX P w K mg base N qual scope f (.ref cda) cc A outer ⟨sh, sg, sd, stk, sos⟩ H E) [(h1.objs.size, kxs_mw "ValueError.__init__" self)] (L2.start N vs) H { heap := h1.push (kxs_mw "ValueError.__init__" self), gens := sg, drawn := sd, toks := stk + (ps.zip us).length + 1, os := sos } :=
    ⟨I2.ok, I2.os, I2.bare, I2.base, I2.loc, I2.cell, I2.free, I2.freeC, fun p hp => by
      have hp' : p = (h1.objs.size, kxs_mw "ValueError.__init__" self) := by simpa using (show p ∈ ([] : List (Addr × Obj)) ++ [(h1.objs.size, kxs_mw "ValueError.__init__" self)] from hp)
      subst hp'
      exact ⟨hmw, nu, Nat.ne_of_gt I1.lt, I1.nofs (Nat.le_refl _), fun v z => nomatch z⟩, I2.hok, I2.len⟩
  show wpAny _ _ (callWith p3 (.ref h1.objs.size) [] (backTo p3 (starEach [a] (ksEnv qual scope L f (.ref cda) cc))) []) _ _ _
  have z := hta.run p3 _ _ _ H _ I3 hq
  subst hL
  have z' : wpAny (model P w) (A.deeper (ksEnv qual scope sh.objs.size f (.ref cda) cc)) (spliced (backTo p3 (starEach [a] (ksEnv qual scope sh.objs.size f (.ref cda) cc)))) _ _ _ := z
  rw [hst] at z' ⊢
  refine kxs_callWith (i := "ValueError.__init__") (x := self) (by rfl) (PySem.Calls.evalArgs_plain (thn z' fun us2 s2 ⟨ws, H1, I4, r4, hlen, hs1, hqt⟩ => ?_))
  have hu2 := (I4.pin (h1.objs.size, kxs_mw "ValueError.__init__" self) (List.mem_append_right _ List.mem_cons_self)).1
  refine ⟨hu2, ?_⟩
  obtain ⟨t2, hox2⟩ := exo_at I4.hok hs1
  obtain ⟨h2, g2, d2, tk2, os2⟩ := s2
  refine call_bwV (I4.kIn _ _ hC) hox2 hu2 (by rw [List.nil_append, ← r4.length, sizeLine_eq]; omega) (fun h' t3 k3 hx3 => ?_)
  have J := I4.write (t' := tk2) (x := self) (e := self) (o := exo self C none) (by rw [hs1]; exact True.intro) (.inl rfl) k3 ⟨_, hx3⟩ (exo_ok hx3)
  have eu : upd H1 self (exo self C none) = H1 := by
    funext b
    by_cases hb : b = self
    · rw [hb, upd_same, hs1]
    · rw [upd_ne hb]
  rw [eu] at J
  have J0 : L2.Inv (cxS CX P w K mg base N qual scope f (.ref cda) cc A outer ⟨sh, sg, sd, stk, sos⟩ H E) [] (L2.start N vs) H1 ⟨h', g2, d2, tk2, os2⟩ := ⟨J.ok, J.os, J.bare, J.base, J.loc, J.cell, J.free, J.freeC, fun p hp => absurd (show p ∈ ([] : List (Addr × Obj)) ++ [] from hp) (by simp), J.hok, J.len⟩
  refine wpAt_of_wpAny (wpAny_mono (ht.run [] _ _ H1 _ J0 hqt) (fun fl s' hs => ?_) fun e s' hs => hs)
  have fin : ∀ {σ' : L2.St} {H' : Hp} {v : V} {u : Value}, L2.Inv (cxS CX P w K mg base N qual scope f (.ref cda) cc A outer ⟨sh, sg, sd, stk, sos⟩ H E) [] σ' H' s' → RelV v u → Q v H' → CE outer P w H ⟨sh, sg, sd, stk, sos⟩ Q u s' :=
    fun {σ' H' v u} J rv q => ⟨v, H', J.os, J.bare, J.base, J.hok, rv, q⟩
  cases fl with
  | ret u =>
    obtain ⟨v, σ', H', J, rv, q⟩ := hs
    exact fin J rv q
  | next =>
    obtain ⟨σ', H', J, q⟩ := hs
    exact fin (v := V.non) (u := Value.none) J rfl q
  | brk =>
    obtain ⟨_, _, _, q⟩ := hs
    exact False.elim q
  | cont =>
    obtain ⟨_, _, _, q⟩ := hs
    exact False.elim q

/-! ### exceptions with int fields, made -/
theorem log2_small {i : Int} (h0 : 0 ≤ i) (h : i < 10 ^ 9) : i.natAbs.log2 < 1920 := by
  by_cases e : i.natAbs = 0
  · rw [e]
    decide
  · refine Nat.lt_of_lt_of_le ((Nat.log2_lt e).mpr (?_ : i.natAbs < 2 ^ 30)) (by decide)
    have : (2 : Nat) ^ 30 = 1073741824 := by decide
    omega
theorem str_small {i : Int} (h0 : 0 ≤ i) (h : i < 10 ^ 9) : (Str.ofString (toString i)).length ≤ 9 := PyProof.Rows.toString_length_le h0 (by decide) h
theorem sz_le {n : Nat} (h : n ≤ 16000000) : n ≤ sizeLine := Nat.le_trans h (by rw [sizeLine_eq]; decide)
theorem sz_lt {n : Nat} (h : n ≤ 16000000) : n < sizeLine := Nat.lt_of_le_of_lt h (by rw [sizeLine_eq]; decide)
/-- __init__ of an exception with one int field -/
def spInit1 (C : Addr) (n : Str) : Sp := fun vs H Q _ => ∃ (a : Addr) (i : Int), vs = [.ref a, .int i] ∧ H a = some (exo a C none) ∧ 0 ≤ i ∧ i < 10 ^ 9 ∧
  ∀ dx, H dx = none → dx ≠ a → Q .non (upd (upd H dx (exd dx [(n, .int i)])) a (exo a C (some dx)))
/-- C(e): E's way -/
def tMk1 (C : Addr) (n : Str) (ta : TA) : L2.St → Hp → XK → Prop := fun σ H Q => ta σ H fun vs H1 => ∃ i : Int, vs = [.int i] ∧ 0 ≤ i ∧ i < 10 ^ 9 ∧
  ∀ (d : Addr) (H' : Hp), Same H1 H' → H1 d = none → H' d = some (.xd [(n, .int i)]) → Q (.ref C) (some d) H'
theorem del_upd {H : Hp} {a : Addr} {o : HO} (h : H a = none) : L2.del (upd H a o) a = H := by
  funext b
  by_cases e : b = a
  · rw [e, del_same, h]
  · rw [del_ne e, upd_ne e]
/-- readings may be weakened -/
theorem pa_mono {X : Cx} {es : List Expr} {t : TA} (h : PA X es t) : PA X es (fun σ H Q => ∃ Q0 : List V → Hp → Prop, t σ H Q0 ∧ ∀ vs H', Q0 vs H' → Q vs H') := by
  refine ⟨fun pos pins s σ H Q I hq => ?_⟩
  obtain ⟨Q0, h0, im⟩ := hq
  refine thn (h.run pos pins s σ H Q0 I h0) fun us s1 ⟨vs, H1, I1, r1, q1⟩ => ⟨vs, H1, I1, r1, im _ _ q1⟩
/-- what stands in the heap behind the making of an exception -/
theorem exc_behind {H1 : Hp} {a dx : Addr} {o1 o2 o3 u : HO} (ha : H1 a = none) (hd : upd H1 a o1 dx = none) (hne : dx ≠ a) :
    upd (L2.del (upd (upd (upd H1 a o1) dx o2) a o3) a) dx u = upd H1 dx u := by
  funext b
  by_cases e : b = dx
  · rw [e, upd_same, upd_same]
  · rw [upd_ne e, upd_ne e]
    by_cases e2 : b = a
    · rw [e2, del_same, ha]
    · rw [del_ne e2, upd_ne e2, upd_ne e, upd_ne e2]
theorem pmk_1 {X : Cx} {x n : Str} {C fI : Addr} {k : Nat} {fd : FuncData} {ps : List Str} {e : Expr} {ta : TA} {p pos : Pos} (T : OexC X.K C) (iC : PySem.W.findIn X.K (.ref C) "__init__" = some (some (.ref fI))) (tI : PySem.W.typeIn X.K (.ref fI) = some (.type "function"))
    (F1 : FnOk X.prog X.w X.K X.mg X.base (L2.CX X.prog X.w) k fI fd ps (spInit1 C n)) (hr : Room (k + 1) X.A) (hb : Binds X.K fd ps []) (hg : Gl X x) (hm : X.mg x = some (.ref C)) (ha : PA X [e] ta)
    (hdb : (x == ("__debug__" : Str)) = false := by decide) (he : starEach (e :: []) X.env = (false, eval e X.env) :: starEach [] X.env := by rfl) (hpl : (backTo pos (starEach [] X.env)).any (·.1) = false := by rfl) :
    PMk X (.Call (.Name x p) [e] [] pos) (tMk1 C n ta) := by
  intro pins s σ H Q I h
  refine pmk_oex T iC tI F1 hr hb .nil passL hg hm (pa_mono ha) hdb he hpl pins s σ H Q I ⟨_, h, fun vs H1 h1 => ?_⟩
  obtain ⟨i, rfl, h0, h9, q⟩ := h1
  refine ⟨by show 1 ≤ 1000; decide, fun a na => ⟨a, i, rfl, upd_same, h0, h9, fun dx nd ne => ⟨rfl, dx, [(n, .int i)], upd_same, ?_, ?_, ?_⟩⟩⟩
  · rw [upd_ne ne, upd_same]
  · rw [upd_ne ne] at nd
    exact nd
  · rw [exc_behind na nd ne]
    have nd' : H1 dx = none := by rw [upd_ne ne] at nd; exact nd
    exact q dx _ (fun b o e => by rw [upd_ne (ne_of_none e nd')]; exact e) nd' upd_same
end L3

/-! a list comprehension whose element may raise (by a call) -/
namespace L3
open PySem PySem.Spec PyProof.Rows L2

abbrev blx (X : Cx) (s : Shared) (H : Hp) (scope : Scope) (cenv : Env) (fp : List Addr) (xe : Value → Shared → Prop) : Cx := { X with s_0 := s, H_0 := H, env := cenv, outer := X.stack, ex := fp, fn := fun x => scope.names.lookup x == some .cell, pn := [], xe := xe }
section
variable {X : Cx} {pins : List (Addr × Obj)} {σ : L2.St} {H : Hp} {s : Shared}
theorem ok_blx {s : Shared} {H : Hp} {scope : Scope} {cenv : Env} {fp : List Addr} {xe : Value → Shared → Prop} (ok : (X.blk s H scope cenv fp).Ok) : (blx X s H scope cenv fp xe).Ok :=
  ⟨ok.mod, ok.kind, ok.glob, ok.blt, ok.above, ok.inj, ok.has, ok.cab, ok.hd, ok.frames, ok.stk, ok.exf, ok.bs, ok.bsz, ok.noex, ok.exfs, ok.funs, ok.frf⟩
theorem inv_blx {s0 s1 : Shared} {H0 H1 : Hp} {scope : Scope} {cenv : Env} {fp : List Addr} {xe : Value → Shared → Prop} (I : L2.Inv (X.blk s0 H0 scope cenv fp) pins σ H1 s1) : L2.Inv (blx X s0 H0 scope cenv fp xe) pins σ H1 s1 :=
  ⟨ok_blx I.ok, I.os, I.bare, I.base, I.loc, I.cell, I.free, I.freeC, I.pin, I.hok, I.len⟩

theorem tracedZ_same {h h' base : Heap} {C e : Addr} {m m' : Str → Option Value} {Z : Obj → Prop} {fl : Value} (hn : h.Ns C m) (sb : Heap.SameBut C h h') (t : HandSPX.TracedZ h base e Z fl) : HandSPX.TracedZ h' base e Z fl := by
  obtain ⟨oe, vs, T, oT, ts, he, hz, hd, h1, hnT, hTe, hT, hdT, h3⟩ := t
  obtain ⟨oL, es, ep, hoL, hdL, r⟩ := hn
  have ne : ∀ {b : Addr} {o : Obj} {us : Array Value}, h.get? b = some o → o.data = .fields us → b ≠ C := fun {b o us} hb hf q => by
    rw [q, hoL] at hb
    cases hb
    rw [hdL] at hf
    cases hf
  exact ⟨oe, vs, T, oT, ts, (sb.2 e (ne he hd)).trans he, hz, hd, h1, hnT, hTe, (sb.2 T (ne hT hdT)).trans hT, hdT, h3⟩

theorem pass_comp {scope : Scope} {cl : List (Str × Addr)} {fp : List Addr} {W : WX} {E : XK} {σ1 : L2.St} {H3 : Hp} {s3 : Shared} (hs : X.stack = X.env :: X.outer) (hf : X.env.frame = some X.env.locals) (tk : Takes X W)
    (I3 : L2.Inv X pins σ H3 s3) (f3 : ∀ b ∈ fp, FpOk X pins H3 b ∧ b < s3.heap.objs.size) (hW : ∀ cls d H', E cls d H' → W cls d σ H') :
    PassesAt (L2.CX X.prog X.w) (blx X s3 H3 scope (compEnvC scope cl s3.heap.objs.size X.env) fp (notedBy (model X.prog X.w) X.A (compEnvC scope cl s3.heap.objs.size X.env) (CompFails (model X.prog X.w) X.A X.xe (compEnvC scope cl s3.heap.objs.size X.env)))) σ1 E := by
  intro pins' H' s e s' I c
  obtain ⟨a, B, H2, cls, d, rfl, fl, hok, ub, na, os, ag, hE⟩ := c
  have hfr : X.A.frames = some (X.env :: X.outer) := by rw [I3.ok.frames, hs]
  have hloc : (compEnvC scope cl s3.heap.objs.size X.env).locals = s3.heap.objs.size := rfl
  generalize hC : s3.heap.objs.size = C at *
  have ltC : ∀ {b : Addr} {o : Obj}, s3.heap.get? b = some o → b ≠ C := fun {b o} q => by
    have := Heap.lt_size q
    rw [hC] at this
    exact Nat.ne_of_lt this
  -- the block's names
  obtain ⟨m, hns, _⟩ := I.loc
  have hns : s.heap.Ns C m := hns
  have hCfree : H' C = none := I.free
  have hCfs : C ∉ frs X.stack := fun hm => by
    obtain ⟨_, o, ho, _⟩ := I3.stack.mem hm
    exact ltC ho rfl
  have nsB : B.Ns C m := by
    obtain ⟨oL, es, ep, hoL, r⟩ := hns
    exact ⟨oL, es, ep, ub.keep C oL hoL hCfree hCfs, r⟩
  have ns' : s'.heap.Ns C m := nsB.keeps fl.1
  -- the ground without the block's names
  obtain ⟨B', b1, b2⟩ := restrict B fun b => decide (b ≠ C)
  have sub : ∀ b o, B'.get? b = some o → B.get? b = some o ∧ b ≠ C := fun b o q => by
    by_cases hb : b = C
    · rw [b2 b (by simp [hb])] at q
      cases q
    · rw [b1 b (by simp [hb])] at q
      exact ⟨q, hb⟩
  have nob : ∀ b, B.get? b = none → B'.get? b = none := fun b q => by
    cases z : B'.get? b with
    | none => rfl
    | some o =>
      have := (sub b o z).1
      rw [q] at this
      cases this
  have fl' : HandSPX.FlyingZ B' (X.env :: X.outer) a (Zc cls d) s'.heap := by
    obtain ⟨k1, k2, k3, oe, vs, T, oT, ts, he, hz, hd, h1, hnT, r⟩ := fl
    have k3 : s'.heap.FunFrames B X.stack := k3
    refine ⟨fun b o q => k1 b o (sub b o q).1, nob a k2, ?_, oe, vs, T, oT, ts, he, hz, hd, h1, nob T hnT, r⟩
    rw [← hs]
    refine funFrames_none k3 fun L hL => ?_
    obtain ⟨hBn, _⟩ := k3.mem hL
    exact nob L hBn
  show wpAny (model X.prog X.w) X.A (noteFrame (.ref a) (compEnvC scope cl C X.env)) _ _ s'
  rw [noteFrame_env _ (show (compEnvC scope cl C X.env).frame = X.env.frame from rfl)]
  refine HandSPX.looks_onZ Zc.steady hfr hf fl' fun h1 hh up => ?_
  have ns1 : h1.Ns C m := ns'.upToSlots up
  refine ⟨m, ns1, fun h2 m2 hn2 sb => ?_⟩
  have hn2 : h2.Ns C m2 := hn2
  have sb : Heap.SameBut C h1 h2 := sb
  obtain ⟨c1, c2, c3, c4⟩ := hh
  have d1 : B'.StaysIn h2 := fun b o q => (sb.2 b (sub b o q).2).trans (c1 b o q)
  have d3 : h2.FunFrames B' (X.env :: X.outer) := Heap.FunFrames.sameBut sb hn2 c3
  have d4 := tracedZ_same (m' := m2) ns1 sb c4
  obtain ⟨oe, vs, T, oT, ts, he, hz, hd, g1, hnT, hTe, hT, hdT, g3⟩ := id d4
  unfold PySem.passOn
  refine wpAny_bind (wpAny_field he hd g1 ?_)
  rw [if_neg (show ¬ ((Value.ref T == Value.none) = true) from by simp)]
  have fin : wpAny (model X.prog X.w) X.A (setFlight (.ref a) X.env.frame) (fun _ s4 => wpAny (model X.prog X.w) X.A (throw (.ref a) : Sem Value) (fun _ _ => False) X.xe s4) X.xe { s' with heap := h2 } := by
    rw [hf]
    refine HandSPX.setFlight_anyZ (fr := some X.env.locals) d1 d3 d4 fun h3 k1 k2 k3 k4 => wpAny_throw (tk _ _ ?_)
    -- the state without the exception
    obtain ⟨G, q1, q2⟩ := restrict s'.heap fun b => (B'.get? b).isSome || decide (b ∈ frs X.stack)
    have og : ∀ b o, G.get? b = some o → s'.heap.get? b = some o ∧ ((B'.get? b).isSome = true ∨ b ∈ frs X.stack) := fun b o e => by
      cases q : ((B'.get? b).isSome || decide (b ∈ frs X.stack)) with
      | false => rw [q2 b q] at e; cases e
      | true =>
        rw [q1 b q] at e
        exact ⟨e, by simpa [Bool.or_eq_true] using q⟩
    have gB : ∀ b o, B'.get? b = some o → G.get? b = some o := fun b o e => by
      rw [q1 b (by simp [e])]
      exact fl'.1 b o e
    have gF : ∀ b, b ∈ frs X.stack → G.get? b = s'.heap.get? b := fun b hb => q1 b (by simp [hb])
    have hokB : HOk X.prog X.w H2 B' := fun b o q => (hok b o q).stay (fun c u hc r => by
        refine (b1 c ?_).trans r
        refine decide_eq_true fun z => ?_
        have nC : H2 C = none := ub.free C _ hns.choose_spec.choose_spec.choose_spec.1 hCfree
        rcases hc with hc | hc
        · rw [← hc, z, nC] at q
          cases q
        · rw [z, nC] at hc
          cases hc) (fun _ r => r) fun _ _ r => r
    have U : Un (frs X.stack) fp H3 H2 s3.heap G := {
      keep := fun b o q n hb hx => gB b o (by
        rw [b1 b (decide_eq_true (ltC q))]
        exact ub.keep b o (I.base.keep b o q n hb hx) (I.base.free b o q n hx) hb)
      slot := fun b o q n hb hx => by
        obtain ⟨sl, e1⟩ := I.base.slot b o q n hb hx
        obtain ⟨sl2, e2⟩ := ub.slot b _ e1 hb
        exact ⟨sl2, (gF b hb).trans e2⟩
      free := fun b o q n hx => by
        obtain ⟨o', e1⟩ := I.base.there b o q hx
        exact ub.free b o' e1 (I.base.free b o q n hx)
      there := fun b o q hx => by
        obtain ⟨o', e1⟩ := I.base.there b o q hx
        by_cases hb : b ∈ frs X.stack
        · obtain ⟨sl2, e2⟩ := ub.slot b _ e1 hb
          exact ⟨_, (gF b hb).trans e2⟩
        · obtain ⟨o2, e2⟩ := ub.there b _ e1 hb
          exact ⟨o2, gB b o2 (by rw [b1 b (decide_eq_true (ltC q))]; exact e2)⟩
      tups := fun b xs q => ub.tups b xs (I.base.tups b xs q)
      frzs := fun b o u q => ub.frzs b o u (I.base.frzs b o u q)
      tbls := fun b ps q => by
        obtain ⟨m1, e1⟩ := I.base.tbls b ps q
        obtain ⟨m2, e2⟩ := ub.tbls b _ e1
        exact ⟨m1 ++ m2, by rw [e2, Array.append_assoc]⟩ }
    have J : L2.Inv X pins σ H2 { s3 with heap := G, gens := s'.gens, drawn := s'.drawn, toks := s'.toks } := I3.call' (ch := fp) rfl U (hokB.kept gB) ag fun b hb => ⟨(f3 b hb).1.2.2.2.1, (f3 b hb).1.2.1, (f3 b hb).1.2.2.2.2.1, (f3 b hb).1.2.2.2.2.2⟩
    refine ⟨a, B', _, pins, σ, H2, cls, d, rfl, J, fun b o e hb => ?_, ?_, .inr (.inr ?_), na, ?_, ag, hW _ _ _ hE⟩
    · obtain ⟨e', h⟩ := og b o e
      rcases h with h | h
      · obtain ⟨o', q⟩ := Option.isSome_iff_exists.mp h
        have z := fl'.1 b o' q
        rw [e'] at z
        cases z
        exact q
      · exact absurd h hb
    · intro b o e hnf
      obtain ⟨e', h⟩ := og b o e
      obtain ⟨sl1, e1⟩ := up b o e' hnf
      have hbC : b ≠ C := by
        rcases h with h | h
        · obtain ⟨o', q⟩ := Option.isSome_iff_exists.mp h
          exact (sub b o' q).2
        · exact fun z => hCfs (z ▸ h)
      obtain ⟨sl2, e2⟩ := k4 b _ ((sb.2 b hbC).trans e1) hnf
      exact ⟨sl2, e2⟩
    · rw [hs]
      exact ⟨k1, c2, k2, k3⟩
    · exact os.trans I.os
  first
    | exact wpAny_bind (wpAny_pure (wpAny_bind fin))
    | exact wpAny_bind fin
end

section
variable {X : Cx}
/-- [elt for tg in iter if ..], elt a call that may raise: the wish W of the def -/
def tLcX (W : WX) (wi : TI) (g : TG) (tt : TT) (te : XK → TE) (vs : List Nat) : TE := fun σ H Q => tLc wi g tt (te (fun cls d H' => W cls d σ H')) vs σ H Q
theorem pe_lcX {W : WX} {elt tg iter : Expr} {ifs : List Expr} {scope : Scope} {own : List (Str × Nat)} {pos : Pos} {wi : TI} {g : TG} {tt : TT} {te : XK → TE} (hc : X.calm = true) (hN : X.N.Nodup)
    (hst : X.stack = X.env :: X.outer) (hfr : X.env.frame = some X.env.locals) (tk : Takes X W) (hi : PI X tg iter wi) (ok : BlkOk X.N X.env.scope scope own)
    (hg : ∀ (s : Shared) (H : Hp) (C : Addr) (cl : List (Str × Addr)) (fp : List Addr) (xe : Value → Shared → Prop), PG (blx X s H scope (compEnvC scope cl C X.env) fp xe) tg g)
    (ht : ∀ (s : Shared) (H : Hp) (C : Addr) (cl : List (Str × Addr)) (fp : List Addr) (xe : Value → Shared → Prop), PTs (blx X s H scope (compEnvC scope cl C X.env) fp xe) ifs tt)
    (he : ∀ (s : Shared) (H : Hp) (C : Addr) (cl : List (Str × Addr)) (fp : List Addr) (xe : Value → Shared → Prop) (E : XK), (∀ σ, PassesAt (L2.CX X.prog X.w) (blx X s H scope (compEnvC scope cl C X.env) fp xe) σ E) → PE (blx X s H scope (compEnvC scope cl C X.env) fp xe) elt (te E))
    (hs : ∀ x, foldedSetIterable iter X.env x = pure x := by intro _; rfl) :
    PE X (.ListComp elt [⟨tg, iter, ifs, 0⟩] scope pos) (tLcX W wi g tt te (own.map (·.2))) := by
  refine ⟨fun pins s σ H Q I h => ?_⟩
  rw [eval_ListComp]
  have h : tLc wi g tt (te (fun cls d H' => W cls d σ H')) (own.map (·.2)) σ H Q := h
  have hfree : ∀ y ∈ scope.names, y.2 = .free → ∃ c, X.env.cells.lookup y.1 = some c := fun y hy e => by
    rcases ok.free y hy e with k | k
    · exact I.ok.has _ (.inl k)
    · exact I.ok.has _ (.inr k)
  refine comprehension_at (use := none) rfl hs (closure_ok hfree) ok.kind (fun y hy e => by rw [ok.uniq y hy, e])
    (thn (hi.run pins s σ H _ I h) fun xv s1 hx => thn hx fun itv s2 h2 => ?_)
  obtain ⟨it, fp, tn, J, H2, e, I2, T, st2, f2, q⟩ := h2
  subst e
  refine wpAny_newObj_type (newEnv_comp ?_) (by show 0 ≤ sizeLine; decide)
  generalize hD : s2.heap.objs.size = D
  have hDn : H2 D = none := I2.hok.fresh (Nat.le_of_eq hD)
  obtain ⟨Wv, ⟨m0, w0⟩, turn⟩ := q D hDn
  generalize hs3 : ({ s2 with heap := s2.heap.push { cls := .type "list", data := .seq ([] : List Value).toArray } } : Shared) = s3
  have I3 : L2.Inv X pins σ (upd H2 D (.lst [])) s3 := by
    rw [← hs3]
    refine I2.laid (t' := s2.toks) (fun b o e => Heap.get?_push_of_some _ e) (Nat.le_of_eq hD) ⟨Nat.zero_le _, [], 0, .nil, ?_⟩
    rw [← hD]
    exact Heap.get?_push_size _ rfl
  have h3 : s3.heap = s2.heap.push { cls := .type "list", data := .seq ([] : List Value).toArray } := by rw [← hs3]
  have sz : ∀ b ∈ fp, b < s2.heap.objs.size := fun b hb => by
    obtain ⟨o, e, _⟩ := T.obj _ _ st2 b hb
    exact Heap.lt_size e
  have f3 : ∀ b ∈ fp, FpOk X pins (upd H2 D (.lst [])) b ∧ b < s3.heap.objs.size := fun b hb => by
    have hlt := sz b hb
    refine ⟨⟨?_, (f2 b hb).2⟩, by rw [h3, Heap.size_push]; exact Nat.lt_succ_of_lt hlt⟩
    rw [upd_ne (by rw [← hD]; exact Nat.ne_of_lt hlt)]
    exact (f2 b hb).1
  have st3 : tn 0 s3.heap := T.keep _ _ _ st2 fun b _ o e => by rw [h3]; exact Heap.get?_push_of_some _ e
  generalize hcl : cellsFrom (s3.heap.objs.size + 1) scope.names (cloFrom X.env.cells scope.names []) = cl
  generalize hxe : (notedBy (model X.prog X.w) X.A (compEnvC scope cl s3.heap.objs.size X.env) (CompFails (model X.prog X.w) X.A X.xe (compEnvC scope cl s3.heap.objs.size X.env))) = xe
  have I4 := inv_blx (xe := xe) (hcl ▸ block_start I3 ok hN f3)
  have pg := hg s3 (upd H2 D (.lst [])) s3.heap.objs.size cl fp xe
  have pt := ht s3 (upd H2 D (.lst [])) s3.heap.objs.size cl fp xe
  have pe := he s3 (upd H2 D (.lst [])) s3.heap.objs.size cl fp xe (fun cls d H' => W cls d σ H') (fun σ1 => by
    rw [← hxe]
    exact pass_comp hst hfr tk I3 f3 fun _ _ _ z => z)
  have goal : codeAny (model X.prog X.w) X.A (.compStart (.ListComp elt [⟨tg, iter, ifs, 0⟩] scope pos) 0 (.ref it) (.ref D) (compEnvC scope cl s3.heap.objs.size X.env)) (compEnds (model X.prog X.w) X.A X.xe none (EP X pins σ Q) (.ref D) (compEnvC scope cl s3.heap.objs.size X.env)) { s3 with heap := pushCells (s3.heap.push { cls := .type "dict", data := .dict #[] }) scope.names } := by
    have nfp : ∀ b ∈ fp, (upd H2 D (.lst [])) b = none := fun b hb => (f3 b hb).1.1
    generalize hce : compEnvC scope cl s3.heap.objs.size X.env = ce at I4 pg pt pe hxe ⊢
    have cL : ce.locals = s3.heap.objs.size := by subst hce; rfl
    generalize hH3 : upd H2 D (.lst []) = H3 at I3 I4 pg pt pe w0 nfp f3
    generalize hs4 : ({ s3 with heap := pushCells (s3.heap.push { cls := .type "dict", data := .dict #[] }) scope.names } : Shared) = s4 at I4 ⊢
    have st4 : tn 0 s4.heap := T.keep _ _ _ st3 fun b _ o e => by rw [← hs4]; exact pushCells_keeps _ _ _ _ (Heap.get?_push_of_some _ e)
    have stat : ∀ {σ' : L2.St} {H' : Hp} {s' : Shared}, L2.Inv (blx X s3 H3 scope ce fp xe) [] σ' H' s' → (∀ b ∈ fp, H' b = none) → ∀ b ∈ fp, FpOk (blx X s3 H3 scope ce fp xe) [] H' b := fun {σ' H' s'} I' hn b hb =>
      ⟨hn b hb, (I'.ok.exf b hb).1, I'.ok.exfs b hb, .inl hb, fun x c e => (I'.ok.exf b hb).2 x c e, fun p hp => absurd (show p ∈ ([] : List (Addr × Obj)) ++ [] from hp) (by simp)⟩
    have loop : codeAny (model X.prog X.w) X.A (.compLoop (.ListComp elt [⟨tg, iter, ifs, 0⟩] scope pos) 0 (.ref it) (.ref D) ce) (compEnds (model X.prog X.w) X.A X.xe none (EP X pins σ Q) (.ref D) ce) s4 := by
      refine compLoop_any (fun n s' => ∃ i H', L2.Inv (blx X s3 H3 scope ce fp xe) [] (wipe σ (own.map (·.2))) H' s' ∧ tn i s'.heap ∧ (∀ b ∈ fp, H' b = none) ∧ Wv i n H') ?_ m0 ⟨0, H3, I4, st4, nfp, w0⟩
      have hx : (notedBy (model X.prog X.w) X.A ce fun e s' => compEnds (model X.prog X.w) X.A X.xe none (EP X pins σ Q) (.ref D) ce (.error e) s') = xe := hxe
      rw [hx]
      rintro n s5 ⟨i, H5, I5, st5, n5, w5⟩
      rcases turn i n H5 w5 with ⟨stop, qq⟩ | ⟨go, Nx, hNx, step⟩
      · have td := T.done (blx X s3 H3 scope ce fp xe) rfl rfl rfl hc i [] s5 _ H5 (fun _ _ => False) I5 (stat I5 n5) st5 stop
        refine thnF td fun r s6 ⟨hr, I6⟩ => ?_
        subst hr
        have I7 : L2.Inv X pins σ H5 s6 := I3.call' (ch := fp) I6.os I6.base I6.hok I6.bare fun b hb => ⟨(f3 b hb).1.2.2.2.1, (f3 b hb).1.2.1, (f3 b hb).1.2.2.2.2.1, (f3 b hb).1.2.2.2.2.2⟩
        have nC : H5 s3.heap.objs.size = none := by
          have z : H5 ce.locals = none := I6.free
          rw [cL] at z
          exact z
        obtain ⟨m, hn, _⟩ := I6.loc
        have hn : s6.heap.Ns ce.locals m := hn
        obtain ⟨f0, f1, f2, f3, f4, f5⟩ := I3.fpOk (Nat.le_refl _) nC
        refine ⟨m, hn, fun h'' sb => ?_⟩
        rw [cL] at sb
        exact ⟨.ref D, H5, I7.turned (t' := s6.toks) (fun b o hb e => (sb.2 b hb).trans e) f0 f1 f3 f4 f5, rfl, qq⟩
      · have ti := T.item (blx X s3 H3 scope ce fp xe) rfl rfl rfl hc i [] s5 _ H5 (fun _ _ => False) I5 (stat I5 n5) st5 go
        refine thnF ti fun r s6 ⟨u, hr, h6⟩ => ?_
        subst hr
        refine thnF h6 fun _ s7 ⟨x, H7, I7, r7, y7, st7, n7⟩ => ?_
        have I7' := I7.pinned (stat I7 n7) (T.obj _ _ st7)
        refine thn (pg.run _ s7 _ H7 x u _ I7' r7 (step x H7 y7)) fun _ s8 ⟨σ8, H8, I8, hw8, q8⟩ => ?_
        refine thn (pt.run _ s8 σ8 H8 _ I8 q8) fun b s9 ⟨H9, I9, q9⟩ => ?_
        have fin : ∀ {s' : Shared} {H' : Hp}, L2.Inv (blx X s3 H3 scope ce fp xe) ([] ++ pinsAt fp s7.heap) σ8 H' s' → Nx H' → ∃ m, m < n ∧ ∃ i H', L2.Inv (blx X s3 H3 scope ce fp xe) [] (wipe σ (own.map (·.2))) H' s' ∧ tn i s'.heap ∧ (∀ b ∈ fp, H' b = none) ∧ Wv i m H' := fun {s' H'} I' nx => by
          obtain ⟨m', hm, w'⟩ := hNx H' nx
          have pin' : ∀ b ∈ fp, ∀ o, s7.heap.get? b = some o → s'.heap.get? b = some o ∧ H' b = none := fun b hb o e =>
            let z := I'.pin (b, o) (List.mem_append_right _ (List.mem_append_right _ (mem_pinsAt hb e)))
            ⟨z.1, z.2.1⟩
          have hl : (wipe σ (own.map (·.2))).length = σ8.length := by rw [← hw8, wipe_length]
          refine ⟨m', hm, i + 1, H', (I'.unpinned (pins := [])).weak hl (fun j v e => ?_), T.keep _ _ _ st7 fun b hb o e => (pin' b hb o e).1, fun b hb => ?_, w'⟩
          · rw [← hw8] at e
            exact (wipe_some e).1
          · obtain ⟨o, e, _⟩ := T.obj _ _ st7 b hb
            exact (pin' b hb o e).2
        cases b with
        | false =>
          simp only [Bool.false_eq_true, if_false] at q9 ⊢
          exact fin I9 q9
        | true =>
          simp only [if_true] at q9 ⊢
          refine thn (pe.run _ s9 σ8 H9 _ I9 q9) fun z s10 ⟨yv, H10, I10, r10, acc, hD10, hz10, nx⟩ => ?_
          exact app_ok (X := blx X s3 H3 scope ce fp xe) I10 hD10 hz10 r10 fun s11 I11 => fin I11 nx
    exact codeAny_compStart_list loop (T.self X.A 0 _ _ _ st4 loop)
  exact goal
end
end L3

/-! enumerate(e), enumerate(e, start=k), e a list or a tuple -/
namespace L3
open PySem PySem.Spec PyProof.Rows L2 PySem.W

/-- the list at a as it stands at each turn, each item in a new pair, counted from c -/
def ItLc (K : PySem.W.Frag) (a : Addr) (c : Int) : It :=
  ⟨fun i H => ∃ (xs : List V) (x : V), SqL K H a xs ∧ xs[i]? = some x, fun i H v H' => ∃ T x, v = .ref T ∧ H T = none ∧ H' = upd H T (.tup [.int (c + (i : Nat)), x]) ∧ ∀ xs, SqL K H a xs → xs[i]? = some x, fun i H => ∃ xs : List V, SqL K H a xs ∧ xs.length = i⟩
def ItTc (K : PySem.W.Frag) (a : Addr) (c : Int) : It :=
  ⟨fun i H => ∃ (xs : List V) (x : V), SqT K H a xs ∧ xs[i]? = some x, fun i H v H' => ∃ T x, v = .ref T ∧ H T = none ∧ H' = upd H T (.tup [.int (c + (i : Nat)), x]) ∧ ∀ xs, SqT K H a xs → xs[i]? = some x, fun i H => ∃ xs : List V, SqT K H a xs ∧ xs.length = i⟩
theorem turn_enumL {P : Program} {w : World} {K : PySem.W.Frag} {elts : List Expr} {kk : Nat} {tpos : Pos} (a e it : Addr) (c : Int) :
    Turn P w K (.Tuple elts kk tpos) (ItLc K a c) [e, it] e (fun i h => (∃ old, IsEnum h e it (c + ((i : Nat) : Int)) old) ∧ h.IsListIter it a i ∧ e ≠ it ∧ a ≠ it ∧ e ≠ a) where
  mem := by simp
  obj := fun i h st b hb => by
    obtain ⟨⟨old, he⟩, ⟨o, ho, hc, hd⟩, _⟩ := st
    have e' : b = e ∨ b = it := by simpa using hb
    rcases e' with z | z
    · rw [z]; exact ⟨_, he, fun v q => nomatch q⟩
    · rw [z]; exact ⟨o, ho, fun v q => by rw [hd] at q; cases q⟩
  keep := fun i h h' st k => let ⟨⟨old, he⟩, hi, hne⟩ := st; ⟨⟨old, k e (by simp) _ he⟩, hi.at fun o q => k it (by simp) o q, hne⟩
  item := by
    intro X hP hw hK hc i pins s σ H E I hf st hg
    subst hP hw hK
    obtain ⟨⟨old, he⟩, hit, hne, hai, hea⟩ := st
    obtain ⟨xs, x, hq, hx⟩ := hg
    obtain ⟨its, rv, p, hz⟩ := I.list hq
    obtain ⟨u, hu, ru⟩ := rv.get hx
    have hel : e < s.heap.objs.size := Heap.lt_size he
    have hil : it < s.heap.objs.size := by obtain ⟨_, q, _⟩ := hit; exact Heap.lt_size q
    have hh : X.A.in1.handled = none := I.ok.hd hc
    have hlt : i < its.toArray.size := by
      rw [List.size_toArray, ← rv.length]
      exact (List.getElem?_eq_some_iff.mp hx).1
    refine wpAny_pyNext_enum_itemC (Draws.list hh it a hai its.toArray) he ⟨hit, p.isList⟩ hlt hne (by simp [hne, hea]) fun x' h' tk hPx ho hst' hT hsz hk => ?_
    have ex : x' = u := by
      have z : its.toArray[i]? = some x' := hPx
      rw [List.getElem?_toArray, hu] at z
      exact (Option.some.inj z).symm
    subst ex
    refine ⟨_, rfl, wpAny_letOwnedTupleGo_enum (s := { s with heap := h', toks := tk + 1 }) ho fun h'' he' sb => ?_⟩
    have hT2 : h''.get? s.heap.objs.size = some { cls := .type "tuple", data := .seq #[.int (c + ((i : Nat) : Int)) tk, x'] } := (sb.2 _ (Nat.ne_of_gt hel)).trans hT
    have new : ObjOk X.prog X.w (upd H s.heap.objs.size (.tup [.int (c + (i : Nat)), x])) h'' s.heap.objs.size (.tup [.int (c + (i : Nat)), x]) :=
      ⟨by show 2 ≤ sizeLine; decide, [.int (c + ((i : Nat) : Int)) tk, x'], .cons ⟨_, rfl⟩ (.cons ru .nil), ⟨_, hT2, rfl, _, rfl⟩⟩
    have I1 : L2.Inv X pins σ (upd H s.heap.objs.size (.tup [.int (c + (i : Nat)), x])) { s with heap := h'', toks := tk + 1 } :=
      I.turnedNew (ch := [e, it]) (fun b ob hb q => (sb.2 b (fun z => hb (by simp [z]))).trans (hk b ob (fun z => hb (by simp [z])) (fun z => hb (by simp [z])) q)) hf (Nat.le_refl _) new
    refine ⟨.ref s.heap.objs.size, _, I1, rfl, ⟨_, x, rfl, I.hok.fresh (Nat.le_refl _), rfl, fun ys hy => by rw [I.list_inj hy hq]; exact hx⟩, ⟨⟨x', ?_⟩, hst'.1.at fun o q => (sb.2 it (Ne.symm hne)).trans q, hne, hai, hea⟩, fun b hb => ?_⟩
    · have e1 : c + ((i + 1 : Nat) : Int) = c + (i : Int) + 1 := by omega
      rw [e1]; exact he'
    · have hb' : b < s.heap.objs.size := by
        have e' : b = e ∨ b = it := by simpa using hb
        rcases e' with z | z
        · rw [z]; exact hel
        · rw [z]; exact hil
      rw [upd_ne (Nat.ne_of_lt hb')]
      exact (hf b hb).1
  done := by
    intro X hP hw hK hc i pins s σ H E I hf st hg
    subst hP hw hK
    obtain ⟨⟨old, he⟩, hit, hne, hai, hea⟩ := st
    obtain ⟨xs, hq, hx⟩ := hg
    obtain ⟨its, rv, p, hz⟩ := I.list hq
    obtain ⟨f0, f1, f2, f3, f4, f5⟩ := hf it (by simp)
    have hl := rv.length
    have hh : X.A.in1.handled = none := I.ok.hd hc
    have ei : i = its.toArray.size := by rw [List.size_toArray, ← hl, hx]
    subst ei
    exact wpAny_pyNext_enum_endD (Draws.list hh it a hai its.toArray) he ⟨hit, p.isList⟩ fun h' eb => ⟨rfl, I.turned (t' := s.toks) (fun b o hb q => eb b o hb q) f0 f1 f3 f4 f5⟩
  self := fun A i s Q E st h => let ⟨⟨_, he⟩, _⟩ := st; wpAny_pyIter_enum he h
theorem turn_enumT {P : Program} {w : World} {K : PySem.W.Frag} {elts : List Expr} {kk : Nat} {tpos : Pos} (a e it : Addr) (c : Int) :
    Turn P w K (.Tuple elts kk tpos) (ItTc K a c) [e, it] e (fun i h => (∃ old, IsEnum h e it (c + ((i : Nat) : Int)) old) ∧ h.IsTupleIter it a i ∧ e ≠ it ∧ a ≠ it ∧ e ≠ a) where
  mem := by simp
  obj := fun i h st b hb => by
    obtain ⟨⟨old, he⟩, ⟨o, ho, hc, hd⟩, _⟩ := st
    have e' : b = e ∨ b = it := by simpa using hb
    rcases e' with z | z
    · rw [z]; exact ⟨_, he, fun v q => nomatch q⟩
    · rw [z]; exact ⟨o, ho, fun v q => by rw [hd] at q; cases q⟩
  keep := fun i h h' st k => let ⟨⟨old, he⟩, hi, hne⟩ := st; ⟨⟨old, k e (by simp) _ he⟩, hi.at fun o q => k it (by simp) o q, hne⟩
  item := by
    intro X hP hw hK hc i pins s σ H E I hf st hg
    subst hP hw hK
    obtain ⟨⟨old, he⟩, hit, hne, hai, hea⟩ := st
    obtain ⟨xs, x, hq, hx⟩ := hg
    obtain ⟨its, rv, p, hz⟩ := I.tuple hq
    obtain ⟨u, hu, ru⟩ := rv.get hx
    have hel : e < s.heap.objs.size := Heap.lt_size he
    have hil : it < s.heap.objs.size := by obtain ⟨_, q, _⟩ := hit; exact Heap.lt_size q
    have hh : X.A.in1.handled = none := I.ok.hd hc
    have hlt : i < its.toArray.size := by
      rw [List.size_toArray, ← rv.length]
      exact (List.getElem?_eq_some_iff.mp hx).1
    refine wpAny_pyNext_enum_itemC (Draws.tuple hh it a hai its.toArray) he ⟨hit, (show s.heap.IsTuple a its.toArray from p)⟩ hlt hne (by simp [hne, hea]) fun x' h' tk hPx ho hst' hT hsz hk => ?_
    have ex : x' = u := by
      have z : its.toArray[i]? = some x' := hPx
      rw [List.getElem?_toArray, hu] at z
      exact (Option.some.inj z).symm
    subst ex
    refine ⟨_, rfl, wpAny_letOwnedTupleGo_enum (s := { s with heap := h', toks := tk + 1 }) ho fun h'' he' sb => ?_⟩
    have hT2 : h''.get? s.heap.objs.size = some { cls := .type "tuple", data := .seq #[.int (c + ((i : Nat) : Int)) tk, x'] } := (sb.2 _ (Nat.ne_of_gt hel)).trans hT
    have new : ObjOk X.prog X.w (upd H s.heap.objs.size (.tup [.int (c + (i : Nat)), x])) h'' s.heap.objs.size (.tup [.int (c + (i : Nat)), x]) :=
      ⟨by show 2 ≤ sizeLine; decide, [.int (c + ((i : Nat) : Int)) tk, x'], .cons ⟨_, rfl⟩ (.cons ru .nil), ⟨_, hT2, rfl, _, rfl⟩⟩
    have I1 : L2.Inv X pins σ (upd H s.heap.objs.size (.tup [.int (c + (i : Nat)), x])) { s with heap := h'', toks := tk + 1 } :=
      I.turnedNew (ch := [e, it]) (fun b ob hb q => (sb.2 b (fun z => hb (by simp [z]))).trans (hk b ob (fun z => hb (by simp [z])) (fun z => hb (by simp [z])) q)) hf (Nat.le_refl _) new
    refine ⟨.ref s.heap.objs.size, _, I1, rfl, ⟨_, x, rfl, I.hok.fresh (Nat.le_refl _), rfl, fun ys hy => by rw [I.tuple_inj hy hq]; exact hx⟩, ⟨⟨x', ?_⟩, hst'.1.at fun o q => (sb.2 it (Ne.symm hne)).trans q, hne, hai, hea⟩, fun b hb => ?_⟩
    · have e1 : c + ((i + 1 : Nat) : Int) = c + (i : Int) + 1 := by omega
      rw [e1]; exact he'
    · have hb' : b < s.heap.objs.size := by
        have e' : b = e ∨ b = it := by simpa using hb
        rcases e' with z | z
        · rw [z]; exact hel
        · rw [z]; exact hil
      rw [upd_ne (Nat.ne_of_lt hb')]
      exact (hf b hb).1
  done := by
    intro X hP hw hK hc i pins s σ H E I hf st hg
    subst hP hw hK
    obtain ⟨⟨old, he⟩, hit, hne, hai, hea⟩ := st
    obtain ⟨xs, hq, hx⟩ := hg
    obtain ⟨its, rv, p, hz⟩ := I.tuple hq
    obtain ⟨f0, f1, f2, f3, f4, f5⟩ := hf it (by simp)
    have hl := rv.length
    have hh : X.A.in1.handled = none := I.ok.hd hc
    have ei : i = its.toArray.size := by rw [List.size_toArray, ← hl, hx]
    subst ei
    exact wpAny_pyNext_enum_endD (Draws.tuple hh it a hai its.toArray) he ⟨hit, (show s.heap.IsTuple a its.toArray from p)⟩ fun h' eb => ⟨rfl, I.turned (t' := s.toks) (fun b o hb q => eb b o hb q) f0 f1 f3 f4 f5⟩
  self := fun A i s Q E st h => let ⟨⟨_, he⟩, _⟩ := st; wpAny_pyIter_enum he h

def iEnumA (K : PySem.W.Frag) (ta : TA) : TI := fun σ H R => ta σ H fun vs H1 => ∃ a xs, vs = [.ref a] ∧ ((SqL K H1 a xs ∧ R (ItLc K a 0) H1) ∨ (SqT K H1 a xs ∧ R (ItTc K a 0) H1))
def iEnumK (K : PySem.W.Frag) (ta tk : TA) : TI := fun σ H R => ta σ H fun vs H0 => tk σ H0 fun ws H1 => ∃ a xs k, vs = [.ref a] ∧ ws = [.int k] ∧ -(2 ^ 63) ≤ k ∧ k < 2 ^ 63 ∧ ((SqL K H1 a xs ∧ R (ItLc K a k) H1) ∨ (SqT K H1 a xs ∧ R (ItTc K a k) H1))
theorem callWith_typeKW {M : Model} {A : Around} {E : Value → Shared → Prop} {s : Shared} {pos : Pos} {T : String} {first : List Value} {args : List (Bool × Sem Value)} {kws : List (Option Str × Sem Value)} {Q : Value → Shared → Prop} (hplain : (args.any (·.1) || kws.any (·.1.isNone)) = false)
    (h : wpAny M A (evalArgs (.type T) true args kws) (fun a s₁ => wpAny M A (call (.type T) (first ++ a.pos) a.kw) Q E s₁) E s) :
    wpAny M A (callWith pos (.type T) first args kws) Q E s := by
  unfold callWith
  refine wpAny_bind (wpAny_holding (wpAny_mono h (fun a s₁ h₁ => wpAny_bind (wpAny_standAt ?_)) fun _ _ x => x))
  simp only [hplain]
  refine wpAny_bind (wpAny_pure ?_)
  exact wpAny_bind (wpAny_mono h₁ (fun r s₂ hr => wpAny_bind (wpAny_holding (wpAny_point (wpAny_pure hr)))) fun _ _ x => x)

section
variable {X : Cx} {pins : List (Addr × Obj)} {σ : L2.St} {H1 : Hp} {s1 : Shared} {R : It → Hp → Prop} {elts : List Expr} {kk : Nat} {tpos : Pos} {a : Addr} {xs : List V} {k : Int} {h' : Heap}
theorem enumL_in (I1 : L2.Inv X pins σ H1 s1) (hq : SqL X.K H1 a xs) (he : IsEnum h' (s1.heap.objs.size + 1) s1.heap.objs.size k .none) (hit : h'.IsListIter s1.heap.objs.size a 0) (hk : ∀ b o, s1.heap.get? b = some o → h'.get? b = some o) (q : R (ItLc X.K a k) H1) :
    PIE X pins σ (.Tuple elts kk tpos) R (.ref (s1.heap.objs.size + 1)) { s1 with heap := h' } := by
  obtain ⟨its, rv, p', hz⟩ := I1.list hq
  obtain ⟨oa, hoa, _⟩ := p'.isList
  have hal : a < s1.heap.objs.size := Heap.lt_size hoa
  have I2 : L2.Inv X pins σ H1 { s1 with heap := h' } := I1.kept (t' := s1.toks) hk
  refine ⟨s1.heap.objs.size + 1, [s1.heap.objs.size + 1, s1.heap.objs.size], _, _, H1, rfl, I2, turn_enumL a (s1.heap.objs.size + 1) s1.heap.objs.size k, ⟨⟨.none, by rw [show k + ((0 : Nat) : Int) = k by omega]; exact he⟩, hit, Nat.succ_ne_self _, Nat.ne_of_lt hal, Nat.ne_of_gt (Nat.lt_succ_of_lt hal)⟩, fun b hb => ?_, q⟩
  have e' : b = s1.heap.objs.size + 1 ∨ b = s1.heap.objs.size := by simpa using hb
  have hle : s1.heap.objs.size ≤ b := by
    rcases e' with z | z
    · rw [z]; exact Nat.le_add_right _ _
    · rw [z]; exact Nat.le_refl _
  exact I1.fpOk hle (I1.hok.fresh hle)
theorem enumT_in (I1 : L2.Inv X pins σ H1 s1) (hq : SqT X.K H1 a xs) (he : IsEnum h' (s1.heap.objs.size + 1) s1.heap.objs.size k .none) (hit : h'.IsTupleIter s1.heap.objs.size a 0) (hk : ∀ b o, s1.heap.get? b = some o → h'.get? b = some o) (q : R (ItTc X.K a k) H1) :
    PIE X pins σ (.Tuple elts kk tpos) R (.ref (s1.heap.objs.size + 1)) { s1 with heap := h' } := by
  obtain ⟨its, rv, p', hz⟩ := I1.tuple hq
  obtain ⟨oa, hoa, _⟩ := (show s1.heap.IsTuple a its.toArray from p')
  have hal : a < s1.heap.objs.size := Heap.lt_size hoa
  have I2 : L2.Inv X pins σ H1 { s1 with heap := h' } := I1.kept (t' := s1.toks) hk
  refine ⟨s1.heap.objs.size + 1, [s1.heap.objs.size + 1, s1.heap.objs.size], _, _, H1, rfl, I2, turn_enumT a (s1.heap.objs.size + 1) s1.heap.objs.size k, ⟨⟨.none, by rw [show k + ((0 : Nat) : Int) = k by omega]; exact he⟩, hit, Nat.succ_ne_self _, Nat.ne_of_lt hal, Nat.ne_of_gt (Nat.lt_succ_of_lt hal)⟩, fun b hb => ?_, q⟩
  have e' : b = s1.heap.objs.size + 1 ∨ b = s1.heap.objs.size := by simpa using hb
  have hle : s1.heap.objs.size ≤ b := by
    rcases e' with z | z
    · rw [z]; exact Nat.le_add_right _ _
    · rw [z]; exact Nat.le_refl _
  exact I1.fpOk hle (I1.hok.fresh hle)
theorem isLI {h : Heap} {it a : Addr} (h1 : h.get? it = some { cls := .type "list_iterator", data := .fields #[.ref a, .int 0 0] }) : h.IsListIter it a 0 := ⟨_, h1, rfl, rfl⟩
theorem isTI {h : Heap} {it a : Addr} (h1 : h.get? it = some { cls := .type "tuple_iterator", data := .fields #[.ref a, .int 0 0] }) : h.IsTupleIter it a 0 := ⟨_, h1, rfl, rfl⟩
theorem pi_enumK {e ke : Expr} {ta tk : TA} {p pos kpos : Pos} (hg : Gl X "enumerate") (hm : X.mg "enumerate" = none) (ha : PA X [e] ta) (hk : PK X [⟨some "start", ke, kpos⟩] tk)
    (he : starEach [e] X.env = (false, eval e X.env) :: starEach [] X.env := by rfl) (hplain : ((backTo pos (starEach [e] X.env)).any (·.1) || (backToKw pos (keywordEach [⟨some "start", ke, kpos⟩] X.env)).any (·.1.isNone)) = false := by rfl)
    (hall : (backToKw pos (keywordEach [⟨some "start", ke, kpos⟩] X.env)).all (·.1.isSome) = true := by rfl) (hks : (backToKw pos (keywordEach [⟨some "start", ke, kpos⟩] X.env)).filterMap (·.1) = [Str.ofString "start"] := by rfl) :
    PI X (.Tuple elts kk tpos) (.Call (.Name "enumerate" p) [e] [⟨some "start", ke, kpos⟩] pos) (iEnumK X.K ta tk) := by
  refine ⟨fun pins s σ H R I h => ?_⟩
  refine wpAny_Call_Name_kw (ld_blt I hg hm boot_enumerate ?_)
  refine callWith_typeKW hplain (evalArgs_kw2 hall ?_ he)
  refine thn (ha.run pos pins s σ H _ I h) fun us s1 ⟨vs, H1, I1, r1, q1⟩ => thn (hk.run pos pins s1 σ H1 _ I1 q1) fun ws s2 ⟨zs, H2, I2, r2, a, xs, k, ev, ez, k0, k1, q⟩ => ?_
  subst ev
  subst ez
  rw [hks]
  cases r1 with
  | cons ra rr =>
    cases rr
    cases ra
    cases r2 with
    | cons rb rs =>
      cases rs
      obtain ⟨t, rfl⟩ := rb
      show wpAny _ _ (call (.type "enumerate") [.ref a] [(Str.ofString "start", .int k t)]) _ _ s2
      rcases q with ⟨hq, q⟩ | ⟨hq, q⟩
      · obtain ⟨its, rv, p', hz⟩ := I2.list hq
        exact enum_begins_start (begins_list a its.toArray) p'.isList k0 k1 fun h' he' hit hsz hk' => wpAny_pyIter_enum he' (enumL_in I2 hq he' (isLI hit) hk' q)
      · obtain ⟨its, rv, p', hz⟩ := I2.tuple hq
        exact enum_begins_start (begins_tuple a its.toArray) p' k0 k1 fun h' he' hit hsz hk' => wpAny_pyIter_enum he' (enumT_in I2 hq he' (isTI hit) hk' q)
end
end L3

/-! what all these proofs share: called functions, tuples that stay, comprehensions -/
namespace L3
open PySem PySem.Spec PyProof.Rows L2
/-- a called function of the module -/
structure Cal (P : Program) (w : World) (K : PySem.W.Frag) (mg : Str → Option Value) (base : Heap) (k : Nat) (x : Str) (ps : List Str) (sp : Sp) (f : Addr) (fd : FuncData) : Prop where
  ok : FnOk P w K mg base (L2.CX P w) k f fd ps sp
  mg : mg x = some (.ref f)
  kp : PySem.W.keepIn K (.ref f) = true
  bi : Binds K fd ps []
/-- an own exception of one field, made by its __init__ -/
structure BadT (P : Program) (w : World) (K : PySem.W.Frag) (mg : Str → Option Value) (base : Heap) (k : Nat) (x n : Str) (ps : List Str) (C fI : Addr) (fd : FuncData) : Prop where
  ox : OexC K C
  iC : PySem.W.findIn K (.ref C) "__init__" = some (some (.ref fI))
  tI : PySem.W.typeIn K (.ref fI) = some (.type "function")
  ok : FnOk P w K mg base (L2.CX P w) k fI fd ps (spInit1 C n)
  bi : Binds K fd ps []
  mg : mg x = some (.ref C)
/-- the exception at C with that field is raised -/
def Raises1 (C : Addr) (n : Str) (i : Int) (H : Hp) (E : XK) : Prop := ∀ (d : Addr) (H' : Hp), Same H H' → H d = none → H' d = some (.xd [(n, .int i)]) → E (.ref C) (some d) H'
/-! ### heaps that keep what is tracked -/
section
variable {K : PySem.W.Frag} {H H1 H2 : Hp} {a p : Addr} {xs ys : List V}
theorem same_new {o : HO} (h : H p = none) : Same H (upd H p o) := fun b u e => by rw [upd_ne (ne_of_none e h)]; exact e
theorem same_mut {o : HO} (s : Same H H1) (h : H p = none) : Same H (upd H1 p o) := fun b u e => by rw [upd_ne (ne_of_none e h)]; exact s b u e
theorem same_t (s : Same H H1) (h : SqT K H a xs) : SqT K H1 a xs := by
  rcases h with (h | ⟨o, h⟩) | h
  · exact .inl (.inl (s _ _ h))
  · exact .inl (.inr ⟨o, s _ _ h⟩)
  · exact .inr h
theorem same_l (s : Same H H1) (h : SqL K H a xs) : SqL K H1 a xs := s.seq h
theorem Raises1.back {C : Addr} {n : Str} {i : Int} {E : XK} (s : Same H H1) (r : Raises1 C n i H E) : Raises1 C n i H1 E := fun d H' s' hd e => r d H' (s.trans s') (s.free hd) e
/-- tuples stay -/
def TSm (K : PySem.W.Frag) (H H1 : Hp) : Prop := ∀ a xs, SqT K H a xs → SqT K H1 a xs
theorem TSm.refl : TSm K H H := fun _ _ h => h
theorem TSm.trans (a : TSm K H H1) (b : TSm K H1 H2) : TSm K H H2 := fun c xs h => b c xs (a c xs h)
theorem tsm_same (s : Same H H1) : TSm K H H1 := fun _ _ h => same_t s h
theorem tsm_lst (h : H p = some (.lst xs)) : TSm K H (upd H p (.lst ys)) := fun b zs hb => by
  rcases hb with (hb | ⟨o, hb⟩) | hb
  · refine .inl (.inl ?_)
    rw [upd_ne (fun e => by rw [e, h] at hb; cases hb)]
    exact hb
  · refine .inl (.inr ⟨o, ?_⟩)
    rw [upd_ne (fun e => by rw [e, h] at hb; cases hb)]
    exact hb
  · exact .inr hb
theorem sqt_new : SqT K (upd H p (.tup xs)) p xs := .inl (.inl upd_same)
theorem sql_new : SqL K (upd H p (.lst xs)) p xs := .inl (.inl upd_same)
end
/-! ### a comprehension, all turns taken -/
section
variable {K : PySem.W.Frag} {J : It} {n : Nat} {G : Hp → Prop} {Y : Nat → Hp → V → Hp → Prop}
theorem lc_all (w : Walk J n G Y) {g : TG} {te : TE} {vs : List Nat} {σ : L2.St} {H1 : Hp} {Q : VK} (R : Nat → V → Hp → Prop) (hR : ∀ i y H H', TSm K H H' → R i y H → R i y H') (hn : n ≤ 10000000)
    (hG : ∀ H, Same H1 H → G H)
    (step : ∀ i x H H', i < n → Same H1 H → (∀ j, j < i → ∃ y, R j y H) → Y i H x H' → g x (wipe σ vs) H' fun σ2 H2 => Same H H2 ∧ wipe σ2 vs = wipe σ vs ∧ ∀ Qy : VK, (∀ y H4, Same H2 H4 → R i y H4 → Qy y H4) → te σ2 H2 Qy)
    (fin : ∀ D ys H, H1 D = none → Same H1 H → H D = some (.lst ys) → ys.length = n → (∀ i y, ys[i]? = some y → R i y H) → Q (.ref D) H)
    (gm : ∀ x σ H (Q Q' : L2.St → Hp → Prop), (∀ a b, Q a b → Q' a b) → g x σ H Q → g x σ H Q') :
    ∀ D, H1 D = none → ∃ W : Nat → Nat → Hp → Prop, (∃ m, W 0 m (upd H1 D (.lst []))) ∧ ∀ i m H, W i m H →
      (J.stop i H ∧ Q (.ref D) H) ∨ (J.go i H ∧ ∃ Nx : Hp → Prop, (∀ H', Nx H' → ∃ m', m' < m ∧ W (i + 1) m' H') ∧ ∀ x H', J.yld i H x H' → g x (wipe σ vs) H' fun σ2 H2 => wipe σ2 vs = wipe σ vs ∧ tYes σ2 H2 fun b H3 =>
        if b = true then te σ2 H3 fun y H4 => ∃ acc, H4 D = some (.lst acc) ∧ acc.length < sizeLine ∧ Nx (upd H4 D (.lst (acc ++ [y]))) else Nx H3) := by
  intro D hD
  refine lc_it w (Qd := Q (.ref D)) (fun i H => Same H1 H ∧ ∃ ys, H D = some (.lst ys) ∧ ys.length = i ∧ ∀ j y, ys[j]? = some y → R j y H) ⟨same_new hD, [], upd_same, rfl, fun j y h => by simp at h⟩ (fun i H _ p => hG H p.1) ?_ ?_
  · rintro i x H H' hi ⟨s, ys, hy, hl, hr⟩ y
    refine gm _ _ _ _ _ (fun σ2 H2 q => ?_) (step i x H H' hi s (fun j hj => ⟨ys[j]'(by omega), hr j _ (List.getElem?_eq_getElem (by omega))⟩) y)
    obtain ⟨s2, hw, st⟩ := q
    refine ⟨hw, ?_⟩
    show te σ2 H2 _
    refine st _ fun z H4 s4 r4 => ⟨ys, s4 _ _ (s2 _ _ hy), sz_lt (by omega), ?_, ys ++ [z], upd_same, by simp [hl], fun j u hj => ?_⟩
    · exact same_mut ((s.trans s2).trans s4) hD
    · have t4 : TSm K H4 (upd H4 D (.lst (ys ++ [z]))) := tsm_lst (s4 _ _ (s2 _ _ hy))
      by_cases hlt : j < ys.length
      · rw [List.getElem?_append_left hlt] at hj
        exact hR _ _ _ _ ((tsm_same (s2.trans s4)).trans t4) (hr j u hj)
      · rw [List.getElem?_append_right (by omega)] at hj
        have e0 : j - ys.length = 0 := by
          have := (List.getElem?_eq_some_iff.mp hj).1
          simp at this
          omega
        rw [e0] at hj
        have e1 : z = u := Option.some.inj hj
        subst e1
        have e2 : j = i := by omega
        subst e2
        exact hR _ _ _ _ t4 r4
  · rintro H ⟨s, ys, hy, hl, hr⟩
    exact fin D ys H hD s hy hl hr
theorem gTup2_mono {K : PySem.W.Frag} {i j : Nat} (x : V) (σ : L2.St) (H : Hp) (Q Q' : L2.St → Hp → Prop) (h : ∀ a b, Q a b → Q' a b) (q : gTup K 2 (gCons (gName i) (gCons (gName j) gNil)) x σ H Q) : gTup K 2 (gCons (gName i) (gCons (gName j) gNil)) x σ H Q' := by
  obtain ⟨a, xs, e, hs, hl, v, r, e1, v2, r2, e2, e3, q⟩ := q
  exact ⟨a, xs, e, hs, hl, v, r, e1, v2, r2, e2, e3, h _ _ q⟩
theorem gName_mono {i : Nat} (x : V) (σ : L2.St) (H : Hp) (Q Q' : L2.St → Hp → Prop) (h : ∀ a b, Q a b → Q' a b) (q : gName i x σ H Q) : gName i x σ H Q' := h _ _ q
/-- over a tuple, the heap as it was at each turn -/
theorem walk_enT {a : Addr} {xs : List V} {c : Int} : Walk (ItTc K a c) xs.length (fun H => SqT K H a xs) (YPair (fun i => some (.int (c + (i : Nat)))) (fun i => xs[i]?)) := by
  refine ⟨fun i _ hi q => ⟨xs, xs[i], q, by simp [hi]⟩, fun _ q => ⟨xs, q, rfl⟩, fun i H v H' _ q y => ?_⟩
  obtain ⟨T, x, h1, h2, h3, h4⟩ := y
  exact ⟨T, .int (c + (i : Nat)), x, h1, h2, h3, rfl, h4 xs q⟩
theorem walk_enL {a : Addr} {xs : List V} {c : Int} : Walk (ItLc K a c) xs.length (fun H => SqL K H a xs) (YPair (fun i => some (.int (c + (i : Nat)))) (fun i => xs[i]?)) := by
  refine ⟨fun i _ hi q => ⟨xs, xs[i], q, by simp [hi]⟩, fun _ q => ⟨xs, q, rfl⟩, fun i H v H' _ q y => ?_⟩
  obtain ⟨T, x, h1, h2, h3, h4⟩ := y
  exact ⟨T, .int (c + (i : Nat)), x, h1, h2, h3, rfl, h4 xs q⟩
end
/-! ### the rules with K told -/
section
variable {X : Cx} (K : PySem.W.Frag) (hK : X.K = K)
include hK
theorem opAddK : OpR X (binaryOp .Add) (rAddAny K) := hK ▸ opAdd
theorem opInK : OpR X (compareOp .In) (rInAny K) := hK ▸ opIn
theorem opNotInK : OpR X (compareOp .NotIn) (rNotInAny K) := hK ▸ opNotIn
theorem slAnyK : SlR X (rSlAny K) := hK ▸ slAny
theorem ixK : IxR X (rIx K) := hK ▸ ix_seq
theorem pi_anyK {tg e : Expr} {te : TE} (he : PE X e te) : PI X tg e (iAny K te) := hK ▸ pi_any he
def rLenK (K : PySem.W.Frag) : List V → Hp → VK → Prop := fun xs H Q => ∃ x n, xs = [x] ∧ LenV K x H n ∧ Q (.int n) H
theorem call_lenK : CallR X (.builtin "len") (rLenK K) := by subst hK; exact call_len
def rListOf (K : PySem.W.Frag) : List V → Hp → VK → Prop := fun xs H Q => ∃ p ys, xs = [.ref p] ∧ (SqL K H p ys ∨ SqT K H p ys) ∧ ∀ l, H l = none → Q (.ref l) (upd H l (.lst ys))
theorem call_listK : CallR X (.type "list") (rListOf K) := by subst hK; exact call_list_of
def rTupleOf (K : PySem.W.Frag) : List V → Hp → VK → Prop := fun xs H Q => ∃ p ys, xs = [.ref p] ∧ ((SqL K H p ys ∧ ∀ l, H l = none → Q (.ref l) (upd H l (.tup ys))) ∨ (SqT K H p ys ∧ Q (.ref p) H))
theorem call_tupleK : CallR X (.type "tuple") (rTupleOf K) := by subst hK; exact call_tuple_of
theorem call_isiK1 : CallR X (.builtin "isinstance") (rIsi K) := by subst hK; exact call_isi
theorem call_sortedK : CallR X (.builtin "sorted") (rSortedI K) := by subst hK; exact cr_sortedI
theorem pe_notTK {a : Expr} {ta : TE} {pos : Pos} (ha : PE X a ta) : PE X (.UnaryOp .Not a pos) (tNotT K ta) := hK ▸ pe_notT ha
theorem pt_truK {a : Expr} {ta : TE} (ha : PE X a ta) (he : ∀ whole, isTrue a X.env whole = (do let v ← whole; standAt a.pos; holding [v] (truthy v)) := by intro _; rfl) : PT X a (tTruA K ta) := hK ▸ pt_tru ha he
theorem pe_appendK {o e : Expr} {to : TE} {t : TA} {apos cpos : Pos} (ho : PE X o to) (ha : PA X [e] t)
    (hbase : attributeBase o "append" X.env (eval o X.env) = eval o X.env := by rfl)
    (hfew : ((backTo cpos (starEach [e] X.env)).all (fun x => !x.1) && (backToKw cpos (keywordEach [] X.env)).all (fun x => x.1.isSome)
      && decide ([e].length + ([] : List Keyword).length + (if ([] : List Keyword).isEmpty then 0 else 1) < 30)) = true := by rfl)
    (hline : (apos.endLine == cpos.line) = true := by rfl) (hs : starEach [e] X.env = (false, eval e X.env) :: starEach [] X.env := by rfl) (hplain : (backTo cpos (starEach [] X.env)).any (·.1) = false := by rfl) :
    PE X (.Call (.Attribute o "append" apos) [e] [] cpos) (tBM K "list" rAppend to t) :=
  hK ▸ pe_bm PySem.F.plainAttrs_list PySem.F.slot_list_append PySem.F.type_list_append mt_append ho ha hbase hfew hline hs hplain
end
/-! ### written items -/
section
variable {X : Cx} {es : List Expr} {t : TA} {j : Nat} {p : Pos}
theorem pa_str {x : Str} (hr : PA X es t) : PA X (.Constant (.str x) j p :: es) (tCons (tC (.str x)) t) := pa_cons pe_str hr
theorem pa_int {x : Int} (hr : PA X es t) : PA X (.Constant (.int x) j p :: es) (tCons (tC (.int x)) t) := pa_cons pe_int hr
end
theorem pe_joinK {X : Cx} {o e : Expr} {to te : TE} {apos pos : Pos} (K : PySem.W.Frag) (hK : X.K = K) (ho : PE X o to) (he : PE X e te) (hs : starEach [e] X.env = [(false, eval e X.env)] := by rfl) (hbase : attributeBase o "join" X.env (eval o X.env) = eval o X.env := by rfl) (hline : (apos.endLine == pos.line) = true := by rfl) :
    PE X (.Call (.Attribute o "join" apos) [e] [] pos) (tM1 (fun x xs H Q => ∃ a p ys, x = V.str a ∧ xs = [V.ref p] ∧ (SqL K H p (List.map V.str ys) ∨ SqT K H p (List.map V.str ys)) ∧ (ys.map Str.length).sum + ys.length * a.length ≤ 16777216 ∧ Q (V.str (Txt.join a ys)) H) to te) := by
  subst hK
  exact pe_join ho he hs hbase hline
structure TPs (X : Cx) (st : List Stmt) (t : TS) : Prop where
  run : PSsT X st t
structure TP (X : Cx) (st : Stmt) (t : TS) : Prop where
  run : PST X st t
theorem tps_nil {X : Cx} : TPs X [] tNext := ⟨CwR.psst_nil⟩
theorem tps_cons {X : Cx} {st : Stmt} {rest : List Stmt} {t u : TS} (h1 : PS X st t) (h2 : TPs X rest u) : TPs X (st :: rest) (tSeq t u) := ⟨@psst_cons X st rest t u (@PST.of X st t h1) h2.run⟩
theorem tps_consT {X : Cx} {st : Stmt} {rest : List Stmt} {t u : TS} (h1 : TP X st t) (h2 : TPs X rest u) : TPs X (st :: rest) (tSeq t u) := ⟨@psst_cons X st rest t u h1.run h2.run⟩
theorem tp_if {X : Cx} {c : Expr} {a b : List Stmt} {tc : TT} {t u : TS} {pos : Pos} (hc : PT X c tc) (ha : TPs X a t) (hb : TPs X b u) : TP X (.If c a b pos) (tIfS tc t u) := ⟨CwR.pst_if hc ha.run hb.run⟩
theorem tp_retRep {X : Cx} {o : Expr} {to : TE} {y z : Str} {j k : Nat} {c0 c1 apos pos rpos : Pos} (ho : PE X o to) (hyz : (y == z) = false := by decide)
    (hst : starEach [.Constant (.str y) j c0, .Constant (.str z) k c1] X.env = [(false, eval (.Constant (.str y) j c0) X.env), (false, eval (.Constant (.str z) k c1) X.env)] := by rfl)
    (hbase : attributeBase o "replace" X.env (eval o X.env) = eval o X.env := by rfl) (hline : (apos.endLine == pos.line) = true := by rfl) :
    TP X (.Return (some (.Call (.Attribute o "replace" apos) [.Constant (.str y) j c0, .Constant (.str z) k c1] [] pos)) rpos) (tRet (CwR.tReplC to y z)) := ⟨CwR.pst_ret (CwR.pet_replC ho hyz hst hbase hline)⟩
theorem opInDK {X : Cx} (K : PySem.W.Frag) (hK : X.K = K) {k : Nat} (hr : Room k X.A) : OpR X (compareOp .In) (rInD K) := by
  subst hK
  exact op_inD (by have := hr.un; omega)
/-! ### data told by a list -/
def All2 {α : Type} (R : V → α → Prop) (vs : List V) (as : List α) : Prop := vs.length = as.length ∧ ∀ (i : Nat) (v : V) (a : α), vs[i]? = some v → as[i]? = some a → R v a
section
variable {α : Type} {R R' : V → α → Prop} {vs ws : List V} {as bs : List α}
theorem All2.nil : All2 R [] ([] : List α) := ⟨rfl, fun i v a h => by simp at h⟩
theorem All2.mono (h : All2 R vs as) (k : ∀ v a, R v a → R' v a) : All2 R' vs as := ⟨h.1, fun i v a x y => k v a (h.2 i v a x y)⟩
theorem All2.app (h : All2 R vs as) (k : All2 R ws bs) : All2 R (vs ++ ws) (as ++ bs) := by
  refine ⟨by rw [List.length_append, List.length_append, h.1, k.1], fun i v a x y => ?_⟩
  by_cases hi : i < vs.length
  · rw [List.getElem?_append_left hi] at x
    rw [List.getElem?_append_left (by rw [← h.1]; exact hi)] at y
    exact h.2 i v a x y
  · rw [List.getElem?_append_right (by omega)] at x
    rw [List.getElem?_append_right (by rw [← h.1]; omega), ← h.1] at y
    exact k.2 _ v a x y
theorem All2.one {v : V} {a : α} (h : R v a) : All2 R [v] [a] := by
  refine ⟨rfl, fun i u b x y => ?_⟩
  cases i with
  | zero => cases Option.some.inj x; cases Option.some.inj y; exact h
  | succ n => simp at x
theorem All2.get (h : All2 R vs as) {i : Nat} {a : α} (y : as[i]? = some a) : ∃ v, vs[i]? = some v ∧ R v a := by
  have hi : i < vs.length := by rw [h.1]; exact (List.getElem?_eq_some_iff.mp y).1
  exact ⟨vs[i], List.getElem?_eq_getElem hi, h.2 i _ a (List.getElem?_eq_getElem hi) y⟩
theorem All2.getV (h : All2 R vs as) {i : Nat} {v : V} (x : vs[i]? = some v) : ∃ a, as[i]? = some a ∧ R v a := by
  have hi : i < as.length := by rw [← h.1]; exact (List.getElem?_eq_some_iff.mp x).1
  exact ⟨as[i], List.getElem?_eq_getElem hi, h.2 i v _ x (List.getElem?_eq_getElem hi)⟩
theorem All2.cons {v : V} {a : α} (h : R v a) (k : All2 R vs as) : All2 R (v :: vs) (a :: as) := by
  have := (All2.one h).app k
  simpa using this
theorem All2.drop (h : All2 R vs as) (n : Nat) : All2 R (vs.drop n) (as.drop n) := by
  refine ⟨by rw [List.length_drop, List.length_drop, h.1], fun i v a x y => ?_⟩
  rw [List.getElem?_drop] at x y
  exact h.2 _ v a x y
theorem All2.take (h : All2 R vs as) (n : Nat) : All2 R (vs.take n) (as.take n) := by
  refine ⟨by rw [List.length_take, List.length_take, h.1], fun i v a x y => ?_⟩
  rw [List.getElem?_take] at x y
  by_cases hi : i < n
  · rw [if_pos hi] at x y
    exact h.2 _ v a x y
  · rw [if_neg hi] at x
    cases x
theorem All2.set (h : All2 R vs as) {n : Nat} {v : V} {a : α} (r : R v a) : All2 R (vs.set n v) (as.set n a) := by
  refine ⟨by rw [List.length_set, List.length_set, h.1], fun i u b x y => ?_⟩
  rw [List.getElem?_set] at x y
  by_cases hi : n = i
  · rw [if_pos hi] at x y
    by_cases hl : n < vs.length
    · rw [if_pos hl] at x
      rw [if_pos (by rw [← h.1]; exact hl)] at y
      cases Option.some.inj x; cases Option.some.inj y; exact r
    · rw [if_neg hl] at x
      cases x
  · rw [if_neg hi] at x y
    exact h.2 _ u b x y
/-- a list that is f's by place -/
theorem map_by_place {vs : List V} {as : List α} {f : α → V} (hl : vs.length = as.length) (h : ∀ (i : Nat) (v : V), vs[i]? = some v → ∃ a, as[i]? = some a ∧ v = f a) : vs = as.map f := by
  apply List.ext_getElem?
  intro i
  rw [List.getElem?_map]
  cases e : vs[i]? with
  | none =>
    rw [List.getElem?_eq_none (by rw [← hl]; exact List.getElem?_eq_none_iff.mp e)]
    rfl
  | some v =>
    obtain ⟨a, ha, ev⟩ := h i v e
    rw [ha, ev]
    rfl
end
end L3

/-! readings by their values -/
namespace L3
open PySem PySem.Spec PyProof.Rows L2
section
variable {K : PySem.W.Frag} {σ : L2.St} {H : Hp} {ta tb tc te : TE} {x y z v : V} {t u : TT} {p : Addr} {xs : List V} {i j : Int} {a b c : Str} {k l : Bool} {n : Nat}
theorem vl_str (h : Val ta σ H (.str a)) (hz : a.length ≤ 16000000) : Val (tCB (rLenK K) (tCons ta tNil)) σ H (.int (a.length : Nat)) := fun Q q => h _ ⟨.str a, _, rfl, ⟨sz_le hz, rfl⟩, q⟩
theorem vl_l (h : Val ta σ H (.ref p)) (hx : SqL K H p xs) : Val (tCB (rLenK K) (tCons ta tNil)) σ H (.int (xs.length : Nat)) := fun Q q => h _ ⟨.ref p, _, rfl, .inl ⟨xs, hx, rfl⟩, q⟩
theorem vl_t (h : Val ta σ H (.ref p)) (hx : SqT K H p xs) : Val (tCB (rLenK K) (tCons ta tNil)) σ H (.int (xs.length : Nat)) := fun Q q => h _ ⟨.ref p, _, rfl, .inr ⟨xs, hx, rfl⟩, q⟩
theorem vx_l (h : Val ta σ H (.ref p)) (hi : Val tb σ H (.int i)) (hx : SqL K H p xs) (e : atI xs i = some v) : Val (tOp (rIx K) ta tb) σ H v := fun Q q => h _ (hi _ (.inl ⟨p, xs, i, v, rfl, rfl, hx, e, q⟩))
theorem vx_t (h : Val ta σ H (.ref p)) (hi : Val tb σ H (.int i)) (hx : SqT K H p xs) (e : atI xs i = some v) : Val (tOp (rIx K) ta tb) σ H v := fun Q q => h _ (hi _ (.inr (.inl ⟨p, xs, i, v, rfl, rfl, hx, e, q⟩)))
theorem vx_s {c : Nat} (h : Val ta σ H (.str a)) (hi : Val tb σ H (.int i)) (hz : a.length ≤ 16000000) (e : atI a.cps.toList i = some c) : Val (tOp (rIx K) ta tb) σ H (.str ⟨#[c]⟩) := fun Q q => h _ (hi _ (.inr (.inr ⟨a, i, c, rfl, rfl, sz_le hz, e, q⟩)))
theorem v_add (h : Val ta σ H (.int i)) (g : Val tb σ H (.int j)) : Val (tOp (rAddAny K) ta tb) σ H (.int (i + j)) := fun Q q => h _ (g _ (.inl ⟨i, j, rfl, rfl, q⟩))
theorem v_cat (h : Val ta σ H (.str a)) (g : Val tb σ H (.str b)) (hz : a.length + b.length ≤ 16000000) : Val (tOp (rAddAny K) ta tb) σ H (.str (a ++ b)) := fun Q q => h _ (g _ (.inr (.inl ⟨a, b, rfl, rfl, sz_le hz, q⟩)))
theorem v_I0 {g : Int → Int → V} (h : Val ta σ H (.int i)) (h2 : Val tb σ H (.int j)) : Val (tOp (rI0 g) ta tb) σ H (g i j) := fun Q q => h _ (h2 _ ⟨i, j, rfl, rfl, q⟩)
theorem v_I {C : Int → Int → Prop} {g : Int → Int → V} (h : Val ta σ H (.int i)) (h2 : Val tb σ H (.int j)) (hc : C i j) : Val (tOp (rI C g) ta tb) σ H (g i j) := fun Q q => h _ (h2 _ ⟨i, j, rfl, rfl, hc, q⟩)
theorem v_mul (h : Val ta σ H (.int i)) (h2 : Val tb σ H (.int j)) (hc : CMul i j) : Val (tOp rMulAny ta tb) σ H (.int (i * j)) := fun Q q => h _ (h2 _ (.inl ⟨i, j, rfl, rfl, hc, q⟩))
theorem v_int (h : Val ta σ H (.int i)) : Val (tCB rIntOf (tCons ta tNil)) σ H (.int i) := fun Q q => h _ (.inl (.inl ⟨i, rfl, q⟩))
theorem v_intS (h : Val ta σ H (.str a)) (e : PySem.intText? a = some i) (hz : a.length ≤ 640) : Val (tCB rIntOf (tCons ta tNil)) σ H (.int i) := fun Q q => h _ (.inr ⟨a, i, rfl, e, hz, q⟩)
theorem v_strI (h : Val ta σ H (.int i)) (e : i.natAbs.log2 < 1920) : Val (tCB (fun xs H Q => ∃ i, xs = [V.int i] ∧ i.natAbs.log2 < 1920 ∧ Q (.str (toString i)) H) (tCons ta tNil)) σ H (.str (toString i)) := fun Q q => h _ ⟨i, rfl, e, q⟩
theorem v_eqI (h : Val ta σ H (.int i)) (g : Val tb σ H (.int j)) : Val (tOp rEq ta tb) σ H (.bl (decide (i = j))) := fun Q q => h _ (g _ ⟨rfl, by
  have e : decide (V.int i = V.int j) = decide (i = j) := decide_eq_decide.mpr ⟨V.int.inj, fun e => by rw [e]⟩
  rw [e]; exact q⟩)
theorem v_eqS (h : Val ta σ H (.str a)) (g : Val tb σ H (.str b)) : Val (tOp rEq ta tb) σ H (.bl (decide (a = b))) := fun Q q => h _ (g _ ⟨rfl, by
  have e : decide (V.str a = V.str b) = decide (a = b) := decide_eq_decide.mpr ⟨V.str.inj, fun e => by rw [e]⟩
  rw [e]; exact q⟩)
theorem v_neI (h : Val ta σ H (.int i)) (g : Val tb σ H (.int j)) : Val (tOp rNe ta tb) σ H (.bl (!decide (i = j))) := fun Q q => h _ (g _ ⟨rfl, by
  have e : decide (V.int i = V.int j) = decide (i = j) := decide_eq_decide.mpr ⟨V.int.inj, fun e => by rw [e]⟩
  rw [e]; exact q⟩)
theorem v_neS (h : Val ta σ H (.str a)) (g : Val tb σ H (.str b)) : Val (tOp rNe ta tb) σ H (.bl (!decide (a = b))) := fun Q q => h _ (g _ ⟨rfl, by
  have e : decide (V.str a = V.str b) = decide (a = b) := decide_eq_decide.mpr ⟨V.str.inj, fun e => by rw [e]⟩
  rw [e]; exact q⟩)
theorem v_isN (h : Val ta σ H x) : Val (tOp rIsAny ta (tC .non)) σ H (.bl (decide (x = .non))) := fun Q q => h _ (.inl ⟨rfl, q⟩)
theorem v_isB (h : Val ta σ H x) : Val (tOp rIsAny ta (tC (.bl k))) σ H (.bl (decide (x = .bl k))) := fun Q q => h _ (.inr ⟨k, rfl, q⟩)
theorem v_notIn {c : Nat} (h : Val ta σ H (.str ⟨#[c]⟩)) (g : Val tb σ H (.str a)) : Val (tOp (rNotInAny K) ta tb) σ H (.bl (!decide (c ∈ a.cps.toList))) := fun Q q => h _ (g _ (.inl ⟨c, a, rfl, rfl, q⟩))
theorem v_and (h : Val ta σ H (.bl k)) (g : k = true → Val tb σ H (.bl l)) : Val (tAndV ta tb) σ H (.bl (k && l)) := fun Q q => h _ ⟨k, rfl, by
  cases k with
  | true => exact g rfl _ q
  | false => exact q⟩
theorem v_or (h : Val ta σ H (.bl k)) (g : k = false → Val tb σ H (.bl l)) : Val (tOrV ta tb) σ H (.bl (k || l)) := fun Q q => h _ ⟨k, rfl, by
  cases k with
  | true => exact q
  | false => exact g rfl _ q⟩
theorem _root_.L2.Val.to {w : V} (h : Val ta σ H v) (e : v = w) : Val ta σ H w := e ▸ h
theorem a_t (h : Val ta σ H (.bl k)) : Ans (tTest ta) σ H k := fun Q q => h _ ⟨k, rfl, q⟩
theorem a_tru (h : Val ta σ H (.bl k)) : Ans (tTruA K ta) σ H k := fun Q q => h _ ⟨k, rfl, q⟩
theorem a_truI (h : Val ta σ H (.int i)) : Ans (tTruA K ta) σ H (i != 0) := fun Q q => h _ ⟨_, rfl, q⟩
theorem a_truL (h : Val ta σ H (.ref p)) (hx : SqL K H p xs) : Ans (tTruA K ta) σ H (!xs.isEmpty) := fun Q q => h _ ⟨_, .inl ⟨xs, hx, rfl⟩, q⟩
theorem a_truT (h : Val ta σ H (.ref p)) (hx : SqT K H p xs) : Ans (tTruA K ta) σ H (!xs.isEmpty) := fun Q q => h _ ⟨_, .inr (.inl ⟨xs, hx, rfl⟩), q⟩
theorem a_not (h : Ans t σ H k) : Ans (tNot t) σ H (!k) := fun Q q => h _ q
theorem a_and (h : Ans t σ H k) (g : k = true → Ans u σ H l) : Ans (tAnd t u) σ H (k && l) := fun Q q => h _ (by
  cases k with
  | true => exact g rfl _ q
  | false => exact q)
theorem a_or (h : Ans t σ H k) (g : k = false → Ans u σ H l) : Ans (tOr t u) σ H (k || l) := fun Q q => h _ (by
  cases k with
  | true => exact q
  | false => exact g rfl _ q)
theorem a_chain {g g' : Int → Int → Bool} {m : Int} (h : Val ta σ H (.int i)) (h1 : Val tb σ H (.int j)) (h2 : Val tc σ H (.int m)) : Ans (tTest (tChain (rI0 fun i j => .bl (g i j)) (rI0 fun i j => .bl (g' i j)) ta tb tc)) σ H (g i j && g' j m) := fun Q q =>
  h _ (h1 _ ⟨i, j, rfl, rfl, g i j, rfl, by
    cases e : g i j with
    | true =>
      show tc σ H _
      refine h2 _ ⟨j, m, rfl, rfl, g' j m, rfl, ?_⟩
      rw [e] at q
      exact q
    | false =>
      rw [e] at q
      exact ⟨false, rfl, q⟩⟩)
theorem _root_.L2.Ans.to' (h : Ans t σ H k) (e : k = l) : Ans t σ H l := e ▸ h
/-- the test, seen as a proposition -/
theorem _root_.L2.Ans.dec {P : Prop} [Decidable P] (h : Ans t σ H k) (e : k = true ↔ P) : Ans t σ H (decide P) := by
  have e2 : k = decide P := by
    cases k with
    | true => exact (decide_eq_true (e.mp rfl)).symm
    | false => exact (decide_eq_false fun p => Bool.false_ne_true (e.mpr p)).symm
  exact e2 ▸ h
/-- a slice's ends -/
theorem po_n {Q : Option Int → Hp → Prop} (q : Q none H) : tNoPart σ H Q := q
theorem po_v {Q : Option Int → Hp → Prop} (h : Val te σ H (.int i)) (q : Q (some i) H) : tPart te σ H Q := h _ ⟨i, rfl, q⟩
end
section
variable {K : PySem.W.Frag} {σ : L2.St} {H : Hp} {tl te : TE} {p : Addr} {xs : List V} {j : Nat} {vs : List Nat} {Q : VK}
/-- [e for x in xs], xs a list or a tuple -/
theorem lc_seq (hv : Val tl σ H (.ref p)) (hx : SqL K H p xs ∨ SqT K H p xs) (R : Nat → V → Hp → Prop) (hR : ∀ i y H H', TSm K H H' → R i y H → R i y H') (hn : xs.length ≤ 10000000)
    (step : ∀ i x H', xs[i]? = some x → Same H H' → wipe ((wipe σ vs).set j (some x)) vs = wipe σ vs ∧ ∀ Qy : VK, (∀ y H4, Same H' H4 → R i y H4 → Qy y H4) → te ((wipe σ vs).set j (some x)) H' Qy)
    (fin : ∀ D ys H', H D = none → Same H H' → H' D = some (.lst ys) → ys.length = xs.length → (∀ i y, ys[i]? = some y → R i y H') → Q (.ref D) H') : tLc (iAny K tl) (gName j) tYes te vs σ H Q := by
  have st : ∀ i x H1 H', i < xs.length → Same H H1 → (∀ j, j < i → ∃ y, R j y H1) → YAt xs i H1 x H' → gName j x (wipe σ vs) H' fun σ2 H2 => Same H1 H2 ∧ wipe σ2 vs = wipe σ vs ∧ ∀ Qy : VK, (∀ y H4, Same H2 H4 → R i y H4 → Qy y H4) → te σ2 H2 Qy := by
    rintro i x H1 H' hi s _ ⟨rfl, ex⟩
    obtain ⟨a, b⟩ := step i x H' ex s
    exact ⟨Same.refl _, a, b⟩
  rcases hx with hx | hx
  · exact .inl (hv _ ⟨p, rfl, ⟨xs, hx⟩, lc_all walk_list R hR hn (fun H1 s => same_l s hx) st fin gName_mono⟩)
  · exact .inr (.inl (hv _ ⟨p, rfl, ⟨xs, hx⟩, lc_all walk_tup R hR hn (fun H1 s => same_t s hx) st fin gName_mono⟩))
/-- for x in xs, xs a list or a tuple that stays -/
theorem for_seq {H0 : Hp} {tb : TS} {D : Ends} (hv : Val tl σ H (.ref p)) (hx : SqL K H0 p xs ∨ SqT K H0 p xs) (s0 : Same H0 H) (Pv : Nat → L2.St → Hp → Prop) (h0 : Pv 0 σ H) (hs : ∀ i σ' H', Pv i σ' H' → Same H0 H')
    (step : ∀ i x σ' H', xs[i]? = some x → Pv i σ' H' → tb { D with nx := Pv (i + 1), ct := Pv (i + 1), bk := D.nx } (σ'.set j (some x)) H') (fin : ∀ σ' H', Pv xs.length σ' H' → D.nx σ' H') : tFor (iAny K tl) (gName j) tb D σ H := by
  rcases hx with hx | hx
  · refine .inl (hv _ ⟨p, rfl, ⟨xs, same_l s0 hx⟩, for_it walk_list Pv h0 (fun i σ' H' _ q => same_l (hs i σ' H' q) hx) ?_ fin⟩)
    rintro i x σ' H' H2 hi q ⟨rfl, ex⟩
    exact step i x σ' _ ex q
  · refine .inr (.inl (hv _ ⟨p, rfl, ⟨xs, same_t s0 hx⟩, for_it walk_tup Pv h0 (fun i σ' H' _ q => same_t (hs i σ' H' q) hx) ?_ fin⟩))
    rintro i x σ' H' H2 hi q ⟨rfl, ex⟩
    exact step i x σ' _ ex q
theorem sum_le {l : List Str} {B : Nat} (h : ∀ z ∈ l, z.length ≤ B) : (l.map Str.length).sum ≤ l.length * B := by
  induction l with
  | nil => simp
  | cons x l ih =>
    have h1 := ih fun z hz => h z (List.mem_cons_of_mem _ hz)
    have h2 := h x (by simp)
    rw [List.map_cons, List.sum_cons, List.length_cons, Nat.succ_mul]
    omega
end
section
variable {σ : L2.St} {H : Hp} {te ta tb : TE} {D : Ends} {Q : VK} {r : List V → Hp → VK → Prop}
theorem un_next (h : D.nx σ H) : tNext D σ H := h
theorem un_ret (h : te σ H D.rt) : tRet te D σ H := h
theorem un_cb1 (h : te σ H fun x H1 => r [x] H1 Q) : tCB r (tCons te tNil) σ H Q := h
theorem un_lcX {W : WX} {wi : TI} {g : TG} {tt : TT} {t : XK → TE} {vs : List Nat} (h : tLc wi g tt (t (fun cls d H' => W cls d σ H')) vs σ H Q) : tLcX W wi g tt t vs σ H Q := h
theorem un_m1 {r : V → List V → Hp → VK → Prop} {a : Str} (h : Val ta σ H (.str a)) (q : tb σ H fun y H2 => r (.str a) [y] H2 Q) : tM1 r ta tb σ H Q := h _ ⟨⟨a, rfl⟩, q⟩
theorem un_set {i : Nat} (h : te σ H fun v H1 => D.nx (σ.set i (some v)) H1) : tAsg te (gName i) D σ H := h
theorem un_drop (h : te σ H fun _ H1 => D.nx σ H1) : tDrop te D σ H := h
theorem un_op {r : R2} (h : ta σ H fun x H1 => tb σ H1 fun y H2 => r x y H2 Q) : tOp r ta tb σ H Q := h
theorem un_app {K : PySem.W.Frag} {x : V} (h : Val ta σ H x) (hy : tyV K "list" x H) (q : te σ H fun y H2 => rAppend x [y] H2 fun _ H3 => D.nx σ H3) : tDrop (tBM K "list" rAppend ta (tCons te tNil)) D σ H := h _ ⟨hy, q⟩
end
theorem cut_1 (x : V) (xs : List V) : cutV (x :: xs) (some 1) none = xs := by
  unfold cutV
  rw [HT.sIx_none, show (1 : Int) = ((1 : Nat) : Int) from rfl, HT.sIx_nat]
  have e : min 1 (x :: xs).length = 1 := by simp
  rw [e, List.drop_succ_cons, List.drop_zero]
  exact List.take_of_length_le (by simp)
/-- xs[1:], a list -/
theorem sl_1 {K : PySem.W.Frag} {te : TE} {σ : L2.St} {H : Hp} {a : Addr} {x : V} {xs : List V} {Q : VK} (h : Val te σ H (.ref a)) (hx : SqL K H a (x :: xs)) (q : ∀ p, H p = none → Q (.ref p) (upd H p (.lst xs))) : tSl (rSlAny K) te (tPart (tC (.int 1))) tNoPart σ H Q :=
  h _ ⟨1, rfl, .inl ⟨a, _, rfl, hx, fun p hp => by rw [cut_1]; exact q p hp⟩⟩
section
variable {K : PySem.W.Frag} {σ : L2.St} {H : Hp} {te ta tb : TE} {D : Ends} {tb' : TS}
theorem for_rng1 {n : Int} {j : Nat} (h : Val te σ H (.int n)) (hn : 0 ≤ n ∧ n ≤ 1000000) (Pv : Nat → L2.St → Hp → Prop) (h0 : Pv 0 σ H)
    (step : ∀ (i : Nat) σ' H', (i : Int) < n → Pv i σ' H' → tb' { D with nx := Pv (i + 1), ct := Pv (i + 1), bk := D.nx } (σ'.set j (some (.int (i : Nat)))) H') (fin : ∀ σ' H', Pv n.toNat σ' H' → D.nx σ' H') : tFor (iRng1 (tCons te tNil)) (gName j) tb' D σ H := by
  refine h _ ⟨n, rfl, by omega, by omega, for_it walk_range Pv h0 (fun _ _ _ _ _ => trivial) ?_ fin⟩
  rintro i x σ' H' H2 hi q ⟨rfl, rfl⟩
  have e : (0 : Int) + (i : Int) = (i : Int) := Int.zero_add _
  show tb' _ (σ'.set j (some (.int (0 + (i : Int))))) H2
  rw [e]
  exact step i σ' H2 (by omega) q
theorem st_app {y : V} {a : Addr} {xs : List V} (h : Val ta σ H (.ref a)) (he : Val te σ H y) (hx : H a = some (.lst xs)) (hn : xs.length ≤ 10000000) (q : D.nx σ (upd H a (.lst (xs ++ [y])))) : tDrop (tBM K "list" rAppend ta (tCons te tNil)) D σ H :=
  un_app h (.inl ⟨rfl, _, .inl (.inl hx)⟩) (he _ ⟨a, xs, y, rfl, rfl, hx, sz_lt (by omega), q⟩)
theorem v_mod {i j : Int} (h : Val ta σ H (.int i)) (g : Val tb σ H (.int j)) (hj : 0 < j) : Val (tOp (rI (fun _ j => 0 < j) fun i j => .int (i % j)) ta tb) σ H (.int (i % j)) := v_I h g hj
theorem v_div {i j : Int} (h : Val ta σ H (.int i)) (g : Val tb σ H (.int j)) (hj : 0 < j ∧ j < 1073741824) : Val (tOp (rI CDiv fun i j => .int (i / j)) ta tb) σ H (.int (i / j)) := v_I h g hj
theorem v_sub {i j : Int} (h : Val ta σ H (.int i)) (g : Val tb σ H (.int j)) : Val (tOp (rI0 fun i j => .int (i - j)) ta tb) σ H (.int (i - j)) := v_I0 h g
theorem v_mulL {i j : Int} (h : Val ta σ H (.int i)) (g : Val tb σ H (.int j)) (hc : -(2 ^ 64) < i ∧ i < 2 ^ 64) : Val (tOp rMulAny ta tb) σ H (.int (i * j)) := v_mul h g (.inl hc)
theorem v_mulR {i j : Int} (h : Val ta σ H (.int i)) (g : Val tb σ H (.int j)) (hc : -(2 ^ 64) < j ∧ j < 2 ^ 64) : Val (tOp rMulAny ta tb) σ H (.int (i * j)) := v_mul h g (.inr hc)
theorem v_abs {i : Int} (h : Val ta σ H (.int i)) : Val (tCB (fun xs H Q => ∃ i, xs = [V.int i] ∧ Q (.int (if i < 0 then -i else i)) H) (tCons ta tNil)) σ H (.int (if i < 0 then -i else i)) := fun Q q => h _ ⟨i, rfl, q⟩
theorem a_lt {i j : Int} (h : Val ta σ H (.int i)) (g : Val tb σ H (.int j)) : Ans (tTest (tOp (rI0 fun i j => .bl (decide (i < j))) ta tb)) σ H (decide (i < j)) := a_t (v_I0 h g)
theorem a_le {i j : Int} (h : Val ta σ H (.int i)) (g : Val tb σ H (.int j)) : Ans (tTest (tOp (rI0 fun i j => .bl (decide (i ≤ j))) ta tb)) σ H (decide (i ≤ j)) := a_t (v_I0 h g)
theorem a_gt {i j : Int} (h : Val ta σ H (.int i)) (g : Val tb σ H (.int j)) : Ans (tTest (tOp (rI0 fun i j => .bl (decide (j < i))) ta tb)) σ H (decide (j < i)) := a_t (v_I0 h g)
theorem a_ge {i j : Int} (h : Val ta σ H (.int i)) (g : Val tb σ H (.int j)) : Ans (tTest (tOp (rI0 fun i j => .bl (decide (j ≤ i))) ta tb)) σ H (decide (j ≤ i)) := a_t (v_I0 h g)
theorem a_eqI {i j : Int} (h : Val ta σ H (.int i)) (g : Val tb σ H (.int j)) : Ans (tTest (tOp rEq ta tb)) σ H (decide (i = j)) := a_t (v_eqI h g)
theorem a_eqS {a b : Str} (h : Val ta σ H (.str a)) (g : Val tb σ H (.str b)) : Ans (tTest (tOp rEq ta tb)) σ H (decide (a = b)) := a_t (v_eqS h g)
theorem _root_.L2.Ans.and {t u : TT} {P Q : Prop} [Decidable P] [Decidable Q] (h : Ans t σ H (decide P)) (g : P → Ans u σ H (decide Q)) : Ans (tAnd t u) σ H (decide (P ∧ Q)) := by
  have := a_and h fun e => g (of_decide_eq_true e)
  rw [← Bool.decide_and] at this
  exact this
theorem _root_.L2.Ans.or {t u : TT} {P Q : Prop} [Decidable P] [Decidable Q] (h : Ans t σ H (decide P)) (g : ¬ P → Ans u σ H (decide Q)) : Ans (tOr t u) σ H (decide (P ∨ Q)) := by
  have := a_or h fun e => g (of_decide_eq_false e)
  rw [← Bool.decide_or] at this
  exact this
theorem _root_.L2.Ans.not {t : TT} {P : Prop} [Decidable P] (h : Ans t σ H (decide P)) : Ans (tNot t) σ H (decide ¬ P) := by
  have := a_not h
  rw [← decide_not] at this
  exact this
end
theorem atI_int {α : Type} {xs : List α} {i : Int} {v : α} (h0 : 0 ≤ i) (h : xs[i.toNat]? = some v) : atI xs i = some v := by
  have e : i = ((i.toNat : Nat) : Int) := (Int.toNat_of_nonneg h0).symm
  rw [e]
  exact atI_nat h
theorem at_mod {ns : List Int} (h : ns ≠ []) (i : Int) : ∃ n, n ∈ ns ∧ atI (ns.map V.int) (i % (ns.length : Nat)) = some (.int n) := by
  have hl : 0 < ns.length := List.length_pos_iff.mpr h
  have h1 : 0 ≤ i % (ns.length : Nat) := Int.emod_nonneg _ (by omega)
  have h2 : i % (ns.length : Nat) < (ns.length : Nat) := Int.emod_lt_of_pos _ (by omega)
  have hlt : (i % (ns.length : Nat)).toNat < ns.length := by omega
  refine ⟨ns[(i % (ns.length : Nat)).toNat], List.getElem_mem _, atI_int h1 ?_⟩
  rw [List.getElem?_map, List.getElem?_eq_getElem hlt]
  rfl
section
variable {K : PySem.W.Frag} {σ : L2.St} {H : Hp} {te ta : TE} {j : Nat} {vs : List Nat} {Q : VK} {n : Int}
/-- [e for k in range(n)] -/
theorem lc_rng1 (hv : Val ta σ H (.int n)) (h : 0 ≤ n ∧ n ≤ 1000000) (R : Nat → V → Hp → Prop) (hR : ∀ i y H H', TSm K H H' → R i y H → R i y H')
    (step : ∀ (i : Nat) H', (i : Int) < n → Same H H' → wipe ((wipe σ vs).set j (some (.int (i : Nat)))) vs = wipe σ vs ∧ ∀ Qy : VK, (∀ y H4, Same H' H4 → R i y H4 → Qy y H4) → te ((wipe σ vs).set j (some (.int (i : Nat)))) H' Qy)
    (fin : ∀ D ys H', H D = none → Same H H' → H' D = some (.lst ys) → (ys.length : Int) = n → (∀ i y, ys[i]? = some y → R i y H') → Q (.ref D) H') : tLc (iRng1 (tCons ta tNil)) (gName j) tYes te vs σ H Q := by
  refine hv _ ⟨n, rfl, by omega, by omega, lc_all walk_range R hR (by omega) (fun _ _ => trivial) ?_ (fun D ys H' hD s hy hl hr => fin D ys H' hD s hy (by omega) hr) gName_mono⟩
  rintro i x H1 H' hi s _ ⟨rfl, rfl⟩
  have e : (0 : Int) + (i : Int) = (i : Int) := Int.zero_add _
  show Same H' H' ∧ wipe ((wipe σ vs).set j (some (.int (0 + (i : Int))))) vs = wipe σ vs ∧ ∀ Qy : VK, _ → te ((wipe σ vs).set j (some (.int (0 + (i : Int))))) H' Qy
  rw [e]
  obtain ⟨a, b⟩ := step i H' (by omega) s
  exact ⟨Same.refl _, a, b⟩
end
/-- a slice of a tuple: the same or a new one -/
theorem sl_tup {K : PySem.W.Frag} {te : TE} {σ : L2.St} {H : Hp} {p : Addr} {xs : List V} {lo hi : Option Int} {tl th : TO} {Q : VK} (h : Val te σ H (.ref p)) (hp : SqT K H p xs) (ql : ∀ Q : Option Int → Hp → Prop, Q lo H → tl σ H Q) (qh : ∀ Q : Option Int → Hp → Prop, Q hi H → th σ H Q)
    (q : ∀ q H', Same H H' → SqT K H' q (cutV xs lo hi) → Q (.ref q) H') : tSl (rSlAny K) te tl th σ H Q := by
  refine h _ (ql _ (qh _ (.inr (.inl ⟨p, xs, rfl, hp, fun e => ?_, fun _ r hr => q r _ (same_new hr) sqt_new⟩))))
  refine q p H (Same.refl _) ?_
  have ec : cutV xs lo hi = xs := by
    unfold cutV
    rw [e.1, e.2, List.drop_zero]
    exact List.take_of_length_le (by omega)
  rw [ec]
  exact hp
theorem cut_nat (xs : List V) {a b : Nat} (h : b ≤ xs.length) : cutV xs (some (a : Nat)) (some (b : Nat)) = (xs.drop (min a xs.length)).take (b - min a xs.length) := by
  unfold cutV
  rw [HT.sIx_nat, HT.sIx_nat, Nat.min_eq_left h]
/-! ### a statement and the rest -/
section
variable {K : PySem.W.Frag} {σ : L2.St} {H : Hp} {te ta : TE} {i : Nat} {D : Ends} {u t1 t2 : TS} {c : TT} {v y : V}
theorem sq_set (h : Val te σ H v) (q : u D (σ.set i (some v)) H) : tSeq (tAsg te (gName i)) u D σ H := h _ q
theorem sq_asg (h : te σ H fun v H1 => u D (σ.set i (some v)) H1) : tSeq (tAsg te (gName i)) u D σ H := h
theorem sq_app {a : Addr} {xs : List V} (h : Val ta σ H (.ref a)) (he : Val te σ H y) (hx : H a = some (.lst xs)) (hn : xs.length ≤ 10000000) (q : u D σ (upd H a (.lst (xs ++ [y])))) : tSeq (tDrop (tBM K "list" rAppend ta (tCons te tNil))) u D σ H := st_app h he hx hn q
theorem sq_ifR (P : Prop) [Decidable P] (hc : Ans c σ H (decide P)) (h1 : P → te σ H D.rt) (h2 : ¬ P → u D σ H) : tSeq (tIfS c (tRet te) tNext) u D σ H := st_if P hc h1 h2
theorem sq_if (P : Prop) [Decidable P] (hc : Ans c σ H (decide P)) (h1 : P → t1 { D with nx := u D } σ H) (h2 : ¬ P → t2 { D with nx := u D } σ H) : tSeq (tIfS c t1 t2) u D σ H := st_if P hc h1 h2
/-- if c: name = e -/
theorem sq_ifS (P : Prop) [Decidable P] (hc : Ans c σ H (decide P)) (h1 : P → te σ H fun v H1 => u D (σ.set i (some v)) H1) (h2 : ¬ P → u D σ H) : tSeq (tIfS c (tAsg te (gName i)) tNext) u D σ H := st_if P hc h1 h2
theorem sq_for {wi : TI} {g : TG} {tb : TS} (h : tFor wi g tb { D with nx := u D } σ H) : tSeq (tFor wi g tb) u D σ H := h
end
section
variable {σ : L2.St} {H : Hp} {te : TE} {tr t : TA} {x : V} {Q : List V → Hp → Prop} {Qv : VK}
theorem un_tup (h : t σ H fun xs H1 => xs.length ≤ sizeLine ∧ ∀ p, H1 p = none → Qv (.ref p) (upd H1 p (.tup xs))) : tTup t σ H Qv := h
theorem un_lst (h : t σ H fun xs H1 => xs.length ≤ sizeLine ∧ ∀ p, H1 p = none → Qv (.ref p) (upd H1 p (.lst xs))) : tLst t σ H Qv := h
theorem ta_val (h : Val te σ H x) (q : tr σ H fun xs H2 => Q (x :: xs) H2) : tCons te tr σ H Q := h _ q
theorem ta_un (h : te σ H fun x H1 => tr σ H1 fun xs H2 => Q (x :: xs) H2) : tCons te tr σ H Q := h
end
/-! ### tests that lay something -/
def AnsS (c : TT) (σ : L2.St) (H : Hp) (b : Bool) : Prop := ∀ Q : Bool → Hp → Prop, (∀ H1, Same H H1 → Q b H1) → c σ H Q
section
variable {K : PySem.W.Frag} {σ : L2.St} {H : Hp} {te ta tb : TE} {D : Ends} {u t1 t2 : TS} {c c' : TT} {Q : VK}
theorem AnsS.of {b : Bool} (h : Ans c σ H b) : AnsS c σ H b := fun Q q => h Q (q H (Same.refl H))
theorem AnsS.or {P R : Prop} [Decidable P] [Decidable R] (h : Ans c σ H (decide P)) (g : ¬ P → AnsS c' σ H (decide R)) : AnsS (tOr c c') σ H (decide (P ∨ R)) := fun Q q => h _ (by
  by_cases p : P
  · rw [decide_eq_true p, if_pos rfl]
    rw [decide_eq_true (Or.inl p)] at q
    exact q H (Same.refl H)
  · rw [decide_eq_false p, if_neg Bool.false_ne_true]
    refine g p Q fun H1 s => ?_
    have := q H1 s
    have e : decide (P ∨ R) = decide R := decide_eq_decide.mpr ⟨fun x => x.resolve_left p, Or.inr⟩
    rw [e] at this
    exact this)
theorem sq_ifRS (P : Prop) [Decidable P] (hc : AnsS c σ H (decide P)) (h1 : P → ∀ H1, Same H H1 → te σ H1 D.rt) (h2 : ¬ P → ∀ H1, Same H H1 → u D σ H1) : tSeq (tIfS c (tRet te) tNext) u D σ H := hc _ fun H1 s => by
  by_cases p : P
  · rw [decide_eq_true p, if_pos rfl]
    exact h1 p H1 s
  · rw [decide_eq_false p, if_neg Bool.false_ne_true]
    exact h2 p H1 s
theorem un_if (P : Prop) [Decidable P] (hc : Ans c σ H (decide P)) (h1 : P → ta σ H Q) (h2 : ¬ P → tb σ H Q) : tIf c ta tb σ H Q := hc _ (by
  by_cases p : P
  · rw [decide_eq_true p, if_pos rfl]
    exact h1 p
  · rw [decide_eq_false p, if_neg Bool.false_ne_true]
    exact h2 p)
theorem a_isN {x : V} (h : Val te σ H x) : Ans (tTest (tOp rIsAny te (tC .non))) σ H (decide (x = .non)) := a_t (v_isN h)
/-- k not in (a, b, c), texts -/
theorem a_notIn3 {k a b d : Str} (h : Val te σ H (.str k)) : AnsS (tTest (tOp (rNotInAny K) te (tTup (tCons (tC (.str a)) (tCons (tC (.str b)) (tCons (tC (.str d)) tNil)))))) σ H (decide ¬ (k = a ∨ k = b ∨ k = d)) := fun Q q =>
  h _ ⟨by show 3 ≤ sizeLine; decide, fun p hp => .inr ⟨p, _, rfl, .inr sqt_new, rfl, rfl, _, rfl, by
    have e : inV (V.str k) [.str a, .str b, .str d] = decide (k = a ∨ k = b ∨ k = d) := by
      simp [inV, eqV]
      grind
    show Q (if true = true then !inV (V.str k) [.str a, .str b, .str d] else _) _
    rw [if_pos rfl, e, ← decide_not]
    exact q _ (same_new hp)⟩⟩
end
/-- as Fun.okX, a token out when the body begins (str.replace) -/
theorem okT {P : Program} {w : World} {K : PySem.W.Frag} {mg : Str → Option Value} {base : Heap} {x qual : Str} {st : Stmt} {f : Addr} {fd : FuncData} {N ps : List Str} {k : Nat} {sp : Sp} (F : Fun K x qual st f fd) (S : FnScope N ps (defScope st)) (hnc : ∀ y ∈ (defScope st).names, y.2 ≠ .cell) (hps : 1 ≤ ps.length) (len : ∀ vs H Q E, sp vs H Q E → vs.length = ps.length)
    (hbody : ∀ (cdv : Value) (A : Around) (outer : List Env) (s : Shared) (H : Hp) (vs : List V) (Q : VK) (E : XK), Room k (A.deeper (envOfC qual (defScope st) s.heap.objs.size f cdv)) → sp vs H Q E →
      ∃ t, TPs (cxOf (L2.CX P w) P w K mg base N qual (defScope st) f cdv A outer s H E) (defBody st) t ∧ t { nx := fun _ H' => Q .non H', rt := Q } (start N vs) H) : FnOk P w K mg base (L2.CX P w) (k + 1) f fd ps sp := by
  obtain ⟨oc, od, kV, doc, pm, an, cdv, ct, osl, rfl, lk, hcd⟩ := F.ex
  refine fn_ofT lk hcd S hnc hps len fun A outer s H vs Q E hr hsp => ?_
  obtain ⟨t, h, q⟩ := hbody cdv A outer s H vs Q E hr hsp
  exact ⟨t, h.run, q⟩
/-- a slice of a list of texts -/
theorem cut_strs (zs : List Str) (lo hi : Option Int) : ∃ a b, cutV (zs.map V.str) lo hi = ((zs.drop a).take b).map V.str := by
  unfold cutV
  rw [← List.map_drop, ← List.map_take]
  exact ⟨_, _, rfl⟩
theorem sum_drop (l : List Str) (a : Nat) : ((l.drop a).map Str.length).sum ≤ (l.map Str.length).sum := by
  induction l generalizing a with
  | nil => simp
  | cons x l ih =>
    cases a with
    | zero => simp
    | succ a =>
      have := ih a
      rw [List.drop_succ_cons, List.map_cons, List.sum_cons]
      omega
theorem sum_take (l : List Str) (a : Nat) : ((l.take a).map Str.length).sum ≤ (l.map Str.length).sum := by
  induction l generalizing a with
  | nil => simp
  | cons x l ih =>
    cases a with
    | zero => simp
    | succ a =>
      have := ih a
      rw [List.take_succ_cons, List.map_cons, List.map_cons, List.sum_cons, List.sum_cons]
      omega
/-- xs[lo:hi], a list -/
theorem sl_list' {K : PySem.W.Frag} {te : TE} {σ : L2.St} {H : Hp} {p : Addr} {xs : List V} {lo hi : Option Int} {tl th : TO} {Q : VK} (h : Val te σ H (.ref p)) (hp : SqL K H p xs) (ql : ∀ Q : Option Int → Hp → Prop, Q lo H → tl σ H Q) (qh : ∀ Q : Option Int → Hp → Prop, Q hi H → th σ H Q)
    (q : ∀ r, H r = none → Q (.ref r) (upd H r (.lst (cutV xs lo hi)))) : tSl (rSlAny K) te tl th σ H Q := h _ (ql _ (qh _ (.inl ⟨p, xs, rfl, hp, q⟩)))
/-- z[lo:hi], a text -/
theorem sl_txt {K : PySem.W.Frag} {te : TE} {σ : L2.St} {H : Hp} {z : Str} {lo hi : Option Int} {tl th : TO} (h : Val te σ H (.str z)) (hz : z.length ≤ 16000000) (ql : ∀ Q : Option Int → Hp → Prop, Q lo H → tl σ H Q) (qh : ∀ Q : Option Int → Hp → Prop, Q hi H → th σ H Q) :
    Val (tSl (rSlAny K) te tl th) σ H (.str (cutS z lo hi)) := fun Q q => h _ (ql _ (qh _ (.inr (.inr ⟨z, rfl, sz_le hz, q⟩))))
theorem v_neg1 {te : TE} {σ : L2.St} {H : Hp} {i : Int} (h : Val te σ H (.int i)) : Val (tUn (rU fun i => .int (-i)) te) σ H (.int (-i)) := fun Q q => h _ ⟨i, rfl, q⟩
theorem at_modS {zs : List Str} (h : zs ≠ []) (i : Int) {n : Int} (hn : ((zs.length : Nat) : Int) = n) : ∃ z, z ∈ zs ∧ atI (zs.map V.str) (i % n) = some (.str z) := by
  subst hn
  have hl : 0 < zs.length := List.length_pos_iff.mpr h
  have h1 : 0 ≤ i % (zs.length : Nat) := Int.emod_nonneg _ (by omega)
  have h2 : i % (zs.length : Nat) < (zs.length : Nat) := Int.emod_lt_of_pos _ (by omega)
  have hlt : (i % (zs.length : Nat)).toNat < zs.length := by omega
  refine ⟨zs[(i % (zs.length : Nat)).toNat], List.getElem_mem _, atI_int h1 ?_⟩
  rw [List.getElem?_map, List.getElem?_eq_getElem hlt]
  rfl
theorem sq_retm {te : TE} {σ : L2.St} {H : Hp} {D : Ends} (h : te σ H D.rt) : tSeq (tRet te) tNext D σ H := h
section
variable {K : PySem.W.Frag} {σ : L2.St} {H : Hp} {te ta : TE} {D : Ends} {u t : TS} {c : TT} {k : Bool}
theorem sq_no (hc : Ans c σ H false) (q : u D σ H) : tSeq (tIfS c t tNext) u D σ H := st_no hc q
theorem sq_yesR (hc : Ans c σ H true) (q : te σ H D.rt) : tSeq (tIfS c (tRet te) tNext) u D σ H := st_yes hc q
theorem v_notT (h : Val ta σ H (.bl k)) : Val (tNotT K ta) σ H (.bl (!k)) := fun Q q => h _ ⟨k, rfl, q⟩
end
section
variable {σ : L2.St} {H : Hp} {ta tb tc : TE} {x y z : V} {sp : Sp} {E : XK} {Q : VK}
theorem un_call1 (ha : Val ta σ H x) (q : sp [x] H Q E) : tCall sp [] E (tCons ta tNil) σ H Q := ha _ q
theorem un_call2 (ha : Val ta σ H x) (hb : Val tb σ H y) (q : sp [x, y] H Q E) : tCall sp [] E (tCons ta (tCons tb tNil)) σ H Q := ha _ (hb _ q)
theorem un_call3 (ha : Val ta σ H x) (hb : Val tb σ H y) (hc : Val tc σ H z) (q : sp [x, y, z] H Q E) : tCall sp [] E (tCons ta (tCons tb (tCons tc tNil))) σ H Q := ha _ (hb _ (hc _ q))
end
section
variable {K : PySem.W.Frag} {σ : L2.St} {H : Hp} {te : TE} {D : Ends} {u t : TS} {c c' : TT} {b : Bool}
theorem AnsS.or2 (h1 : AnsS c σ H false) (h2 : ∀ H1, Same H H1 → AnsS c' σ H1 false) : AnsS (tOr c c') σ H false := fun Q q => h1 _ fun H1 s => by
  rw [if_neg Bool.false_ne_true]
  exact h2 H1 s Q fun H2 s2 => q H2 (s.trans s2)
theorem AnsS.not (h : AnsS c σ H b) : AnsS (tNot c) σ H (!b) := fun Q q => h _ q
theorem AnsS.tru (h : ∀ Q : VK, (∀ H1, Same H H1 → Q (.bl b) H1) → te σ H Q) : AnsS (tTruA K te) σ H b := fun Q q => h _ fun H1 s => ⟨b, rfl, q H1 s⟩
theorem sq_noS (h : AnsS c σ H false) (q : ∀ H1, Same H H1 → u D σ H1) : tSeq (tIfS c t tNext) u D σ H := h _ fun H1 s => by
  rw [if_neg Bool.false_ne_true]
  exact q H1 s
theorem st_noS (h : AnsS c σ H false) (q : ∀ H1, Same H H1 → D.nx σ H1) : tIfS c t tNext D σ H := h _ fun H1 s => by
  rw [if_neg Bool.false_ne_true]
  exact q H1 s
end
section
variable {K : PySem.W.Frag} {σ : L2.St} {H : Hp} {te ta tb tc : TE} {D : Ends} {u t : TS} {c : TT} {sp : Sp} {E : XK} {Q : VK}
theorem sq_ifW {W : L2.St → Hp → Prop} (P : Prop) [Decidable P] (hc : Ans c σ H (decide P)) (h1 : P → ∀ N : L2.St → Hp → Prop, (∀ σ' H', W σ' H' → N σ' H') → t { D with nx := N } σ H) (h2 : ¬ P → W σ H) (k : ∀ σ' H', W σ' H' → u D σ' H') : tSeq (tIfS c t tNext) u D σ H :=
  st_if P hc (fun p => h1 p (u D) k) (fun p => k _ _ (h2 p))
theorem sq_sub (h : te σ H fun v H1 => ∃ (l : Addr) (xs : List V) (j : Nat), Val ta σ H1 (.ref l) ∧ Val tb σ H1 (.int (j : Nat)) ∧ H1 l = some (.lst xs) ∧ j < xs.length ∧ u D σ (upd H1 l (.lst (xs.set j v))))
    (mono : ∀ (Q Q' : VK), (∀ v H1, Q v H1 → Q' v H1) → te σ H Q → te σ H Q') : tSeq (tAsg te (gSub ta tb rSetL)) u D σ H := by
  refine mono _ _ (fun v H1 q => ?_) h
  obtain ⟨l, xs, j, h1, h2, h3, h4, q⟩ := q
  refine h1 _ (h2 _ ⟨l, xs, _, j, rfl, rfl, h3, ?_, q⟩)
  unfold ixN
  rw [if_pos (by omega), if_pos (by omega)]
  simp
/-- xs[j] = e, by the value and the heap behind it -/
theorem un_sub {l : Addr} {xs : List V} {j : Nat} {v : V} (h1 : Val ta σ H (.ref l)) (h2 : Val tb σ H (.int (j : Nat))) (h3 : H l = some (.lst xs)) (h4 : j < xs.length) (q : D.nx σ (upd H l (.lst (xs.set j v)))) : gSub ta tb rSetL v σ H D.nx :=
  h1 _ (h2 _ ⟨l, xs, _, j, rfl, rfl, h3, by
    unfold ixN
    rw [if_pos (by omega), if_pos (by omega)]
    simp, q⟩)
theorem un_asgG {g : TG} (h : te σ H fun v H1 => g v σ H1 D.nx) : tAsg te g D σ H := h
theorem sq_asgG {g : TG} (h : te σ H fun v H1 => g v σ H1 (u D)) : tSeq (tAsg te g) u D σ H := h
theorem un_subU {l : Addr} {xs : List V} {j : Nat} {v : V} {N : L2.St → Hp → Prop} (h1 : Val ta σ H (.ref l)) (h2 : Val tb σ H (.int (j : Nat))) (h3 : H l = some (.lst xs)) (h4 : j < xs.length) (q : N σ (upd H l (.lst (xs.set j v)))) : gSub ta tb rSetL v σ H N :=
  h1 _ (h2 _ ⟨l, xs, _, j, rfl, rfl, h3, by
    unfold ixN
    rw [if_pos (by omega), if_pos (by omega)]
    simp, q⟩)
theorem un_callS2 (h : ta σ H fun x H1 => tb σ H1 fun y H2 => sp [x, y] H2 Q E) : tCall sp [] E (tCons ta (tCons tb tNil)) σ H Q := h
theorem un_callS1 (h : ta σ H fun x H1 => sp [x] H1 Q E) : tCall sp [] E (tCons ta tNil) σ H Q := h
theorem un_callS3 (h : ta σ H fun x H1 => tb σ H1 fun y H2 => tc σ H2 fun z H3 => sp [x, y, z] H3 Q E) : tCall sp [] E (tCons ta (tCons tb (tCons tc tNil))) σ H Q := h
end
theorem cut_gen (xs : List V) {a b : Nat} (h : a ≤ xs.length) : cutV xs (some (a : Nat)) (some (b : Nat)) = (xs.drop a).take (min b xs.length - a) := by
  unfold cutV
  rw [HT.sIx_nat, HT.sIx_nat, Nat.min_eq_left h]
theorem sq_appU {K : PySem.W.Frag} {σ : L2.St} {H : Hp} {te ta : TE} {D : Ends} {u : TS} {x : V} (h : Val ta σ H x) (hy : tyV K "list" x H) (q : te σ H fun y H2 => rAppend x [y] H2 fun _ H3 => u D σ H3) : tSeq (tDrop (tBM K "list" rAppend ta (tCons te tNil))) u D σ H := h _ ⟨hy, q⟩
theorem All2.of {α : Type} {R : V → α → Prop} : ∀ {vs : List V}, (∀ (i : Nat) (v : V), vs[i]? = some v → ∃ a, R v a) → ∃ as : List α, All2 R vs as
  | [], _ => ⟨[], All2.nil⟩
  | v :: vs, h => by
    obtain ⟨a, ha⟩ := h 0 v rfl
    obtain ⟨as, has⟩ := All2.of (vs := vs) fun i u hu => h (i + 1) u (by simpa using hu)
    exact ⟨a :: as, All2.cons ha has⟩
theorem All2.rep {α : Type} {R : V → α → Prop} {vs : List V} {as : List α} (h : All2 R vs as) : ∀ n, All2 R (List.replicate n vs).flatten (List.replicate n as).flatten
  | 0 => All2.nil
  | n + 1 => by
    rw [List.replicate_succ, List.replicate_succ, List.flatten_cons, List.flatten_cons]
    exact h.app (All2.rep h n)
theorem un_callT1 {σ : L2.St} {H : Hp} {ta : TE} {sp : Sp} {E : L2.St → XK} {Q : VK} (h : ta σ H fun x H1 => sp [x] H1 Q (E σ)) : tCallS sp E (tCons ta tNil) σ H Q := h
end L3

/-! the mathematics of law k54: rows of papers as lines; no program here -/
namespace K54
open PySem PySem.Spec PyProof.Rows TL
set_option autoImplicit false
def SP : Str := Str.ofString " "
def SL : Str := Str.ofString "/"
def SLS : Str := Str.ofString " / "
def fld (n : Int) : Str := Str.ofString (toString n)
def isDig (c : Nat) : Bool := decide (48 ≤ c ∧ c ≤ 57)
def isNumber (z : Str) : Bool := decide (0 < z.length ∧ z.length ≤ 9) && (tl z).all isDig && (decide (z.length = 1) || decide ((tl z)[0]? ≠ some 48))
def numOf (z : Str) : Int := (NumText.digitsVal (tl z) : Nat)
inductive Row where
  | split (a b : Int) | across (ws : List Int) | down (ws : List Int) | pages (wss : List (List Int))
def okN (n : Int) : Prop := 0 ≤ n ∧ n < 10 ^ 9
def wfW (ws : List Int) : Prop := ws ≠ [] ∧ ws.length ≤ 60 ∧ ∀ n ∈ ws, okN n
def Row.wf : Row → Prop
  | .split a b => okN a ∧ okN b
  | .across ws => wfW ws
  | .down ws => wfW ws
  | .pages wss => wss ≠ [] ∧ wss.length ≤ 10 ∧ ∀ ws ∈ wss, wfW ws
def numbersText (ws : List Int) : Str := Txt.join SP (ws.map fld)
def kSplit : Str := Str.ofString "split"
def kAcross : Str := Str.ofString "across"
def kDown : Str := Str.ofString "down"
def kPages : Str := Str.ofString "pages"
def printRow : Row → Str
  | .split a b => Str.ofString "split " ++ fld a ++ SP ++ fld b
  | .across ws => kAcross ++ SP ++ numbersText ws
  | .down ws => kDown ++ SP ++ numbersText ws
  | .pages wss => Str.ofString "pages " ++ Txt.join SLS (wss.map numbersText)
def readNumbers (zs : List Str) : Option (List Int) := if zs = [] then none else if zs.all isNumber = true then some (zs.map numOf) else none
/-- the groups between slashes; the last one open -/
def groupStep (g : List (List Str)) (z : Str) : List (List Str) := if z = SL then g ++ [[]] else g.dropLast ++ [(g.getLast?.getD []) ++ [z]]
def groups (zs : List Str) : List (List Str) := zs.foldl groupStep [[]]
def allSome {α : Type} : List (Option α) → Option (List α)
  | [] => some []
  | none :: _ => none
  | some a :: r => (allSome r).map (a :: ·)
def readWalks (zs : List Str) : Option (List (List Int)) := allSome ((groups zs).map readNumbers)
def fieldsOf (line : Str) : List Str := Txt.split line SP
def parseRow (line : Str) : Option Row := match fieldsOf line with
  | [] => none
  | k :: r =>
    if k = kSplit then (match r with
      | [a, b] => if isNumber a && isNumber b then some (.split (numOf a) (numOf b)) else none
      | _ => none)
    else if k = kAcross then (readNumbers r).map .across
    else if k = kDown then (readNumbers r).map .down
    else if k = kPages then (readWalks r).map .pages
    else none
/-- the rows, or the number of the first line that is none -/
def readPaper : Nat → List Str → List Row ⊕ Nat
  | _, [] => .inl []
  | n, l :: r => match parseRow l with
    | none => .inr n
    | some row => match readPaper (n + 1) r with
      | .inl rows => .inl (row :: rows)
      | .inr k => .inr k

/-! ### printed, read back -/
theorem fld_tl {n : Int} (h : okN n) : tl (fld n) = numL n.toNat := by
  have e : ((n.toNat : Nat) : Int) = n := Int.toNat_of_nonneg h.1
  have z := tl_num n.toNat
  rw [e] at z
  exact z
theorem fld_len {n : Int} (h : okN n) : (fld n).length ≤ 9 := by
  rw [len_tl]
  show (tl (fld n)).length ≤ 9
  rw [fld_tl h]
  refine numL_len (by decide) ?_
  have := h.1
  have := h.2
  omega
theorem isDig_all (n : Nat) : (numL n).all isDig = true := by
  rw [List.all_eq_true]
  intro c hc
  have := numL_digits n c hc
  exact decide_eq_true this
theorem numL_head : ∀ n : Nat, (numL n).length = 1 ∨ (numL n)[0]? ≠ some 48 := by
  intro n
  induction n using Nat.strongRecOn with
  | _ n ih =>
    by_cases h : n < 10
    · left
      rw [numL_lt h]
      rfl
    · right
      rw [numL_step (by omega)]
      have hne := numL_ne (n / 10)
      have hpos : 0 < (numL (n / 10)).length := List.length_pos_iff.mpr hne
      rw [List.getElem?_append_left hpos]
      rcases ih (n / 10) (by omega) with h1 | h1
      · by_cases h2 : n / 10 < 10
        · rw [numL_lt h2]
          intro e
          have : 48 + n / 10 = 48 := Option.some.inj e
          omega
        · exfalso
          rw [numL_step (by omega)] at h1
          have hne2 := numL_ne (n / 10 / 10)
          have hpos2 : 0 < (numL (n / 10 / 10)).length := List.length_pos_iff.mpr hne2
          rw [List.length_append, List.length_singleton] at h1
          omega
      · exact h1
theorem fld_number {n : Int} (h : okN n) : isNumber (fld n) = true := by
  have hl := fld_len h
  have hp : 0 < (fld n).length := by
    rw [len_tl]
    show 0 < (tl (fld n)).length
    rw [fld_tl h]
    exact List.length_pos_iff.mpr (numL_ne _)
  unfold isNumber
  rw [fld_tl h, isDig_all, decide_eq_true ⟨hp, hl⟩]
  have e : (fld n).length = (numL n.toNat).length := by
    rw [len_tl]
    show (tl (fld n)).length = _
    rw [fld_tl h]
  rcases numL_head n.toNat with h1 | h1
  · rw [decide_eq_true (show (fld n).length = 1 by rw [e, h1])]
    rfl
  · rw [decide_eq_true h1, Bool.or_true]
    rfl
theorem numOf_fld {n : Int} (h : okN n) : numOf (fld n) = n := by
  unfold numOf
  rw [fld_tl h, numL_val]
  exact Int.toNat_of_nonneg h.1
theorem isNumber_facts {z : Str} (h : isNumber z = true) : 0 < z.length ∧ z.length ≤ 9 ∧ (tl z).all isDig = true := by
  unfold isNumber at h
  simp only [Bool.and_eq_true, decide_eq_true_eq] at h
  exact ⟨h.1.1.1, h.1.1.2, h.1.2⟩
theorem intText_number {z : Str} (h : isNumber z = true) : PySem.intText? z = some (numOf z) := by
  obtain ⟨h1, h2, h3⟩ := isNumber_facts h
  have e := intText_digits (x := z) (fun c hc => by
    have := List.all_eq_true.mp h3 c hc
    exact of_decide_eq_true this) (fun e => by
      rw [len_tl] at h1
      have : (tl z).length = 0 := by rw [show tl z = [] from e]; rfl
      omega) (by omega)
  exact e
theorem readNumbers_print {ws : List Int} (h : wfW ws) : readNumbers (ws.map fld) = some ws := by
  obtain ⟨h1, _, h2⟩ := h
  unfold readNumbers
  rw [if_neg (fun e => h1 (List.map_eq_nil_iff.mp e)), if_pos]
  · rw [List.map_map]
    congr 1
    conv => rhs; rw [← List.map_id ws]
    exact List.map_congr_left fun n hn => numOf_fld (h2 n hn)
  · rw [List.all_map, List.all_eq_true]
    exact fun n hn => fld_number (h2 n hn)

/-! ### the fields of a printed row -/
theorem join_cons (y x : Str) {r : List Str} (h : r ≠ []) : Str.join y (x :: r) = x ++ y ++ Str.join y r := by
  cases r with
  | nil => exact absurd rfl h
  | cons z r => rfl
theorem app_assoc (x y z : Str) : x ++ y ++ z = x ++ (y ++ z) := by
  apply ext_tl
  rw [tl_append, tl_append, tl_append, tl_append, List.append_assoc]
theorem join_app (y : Str) : ∀ {a b : List Str}, a ≠ [] → b ≠ [] → Str.join y (a ++ b) = Str.join y a ++ y ++ Str.join y b
  | [], _, h, _ => absurd rfl h
  | [x], b, _, hb => by
    rw [List.singleton_append, join_cons y x hb]
    rfl
  | x :: z :: r, b, _, hb => by
    have ih := join_app y (a := z :: r) (b := b) (by simp) hb
    rw [List.cons_append, join_cons y x (by simp), ih, join_cons y x (r := z :: r) (by simp)]
    simp only [app_assoc]
def pgF : List (List Int) → List Str
  | [] => []
  | [ws] => ws.map fld
  | ws :: vs :: r => ws.map fld ++ SL :: pgF (vs :: r)
theorem pgF_ne : ∀ {wss : List (List Int)}, wss ≠ [] → (∀ ws ∈ wss, wfW ws) → pgF wss ≠ []
  | [], h, _ => absurd rfl h
  | [ws], _, hw => by
    intro e
    exact (hw ws (by simp)).1 (List.map_eq_nil_iff.mp e)
  | ws :: vs :: r, _, _ => by
    intro e
    have : (ws.map fld ++ SL :: pgF (vs :: r)) = [] := e
    simp at this
theorem sls_eq : SLS = SP ++ SL ++ SP := by decide +kernel
theorem join_pg : ∀ {wss : List (List Int)}, wss ≠ [] → (∀ ws ∈ wss, wfW ws) → Str.join SLS (wss.map numbersText) = Str.join SP (pgF wss)
  | [], h, _ => absurd rfl h
  | [ws], _, _ => join_eq SP (ws.map fld)
  | ws :: vs :: r, _, hw => by
    have ih := join_pg (wss := vs :: r) (by simp) (fun x hx => hw x (List.mem_cons_of_mem _ hx))
    have h1 : ws.map fld ≠ [] := fun e => (hw ws (by simp)).1 (List.map_eq_nil_iff.mp e)
    have h2 := pgF_ne (wss := vs :: r) (by simp) (fun x hx => hw x (List.mem_cons_of_mem _ hx))
    show Str.join SLS (numbersText ws :: (vs :: r).map numbersText) = Str.join SP (ws.map fld ++ SL :: pgF (vs :: r))
    rw [join_cons SLS _ (by simp), ih, join_app SP h1 (by simp), join_cons SP SL h2, sls_eq]
    show Txt.join SP (ws.map fld) ++ (SP ++ SL ++ SP) ++ Str.join SP (pgF (vs :: r)) = _
    rw [join_eq]
    simp only [app_assoc]
def rowFields : Row → List Str
  | .split a b => [kSplit, fld a, fld b]
  | .across ws => kAcross :: ws.map fld
  | .down ws => kDown :: ws.map fld
  | .pages wss => kPages :: pgF wss
theorem ne_map {ws : List Int} (h : wfW ws) : ws.map fld ≠ [] := fun e => h.1 (List.map_eq_nil_iff.mp e)
theorem print_join : ∀ {r : Row}, r.wf → printRow r = Txt.join SP (rowFields r)
  | .split a b, _ => by
    rw [join_eq]
    show Str.ofString "split " ++ fld a ++ SP ++ fld b = kSplit ++ SP ++ (fld a ++ SP ++ fld b)
    rw [show Str.ofString "split " = kSplit ++ SP by decide +kernel]
    simp only [app_assoc]
  | .across ws, h => by
    rw [join_eq]
    show kAcross ++ SP ++ numbersText ws = Str.join SP (kAcross :: ws.map fld)
    rw [join_cons SP _ (ne_map h)]
    show _ ++ Txt.join SP (ws.map fld) = _
    rw [join_eq]
  | .down ws, h => by
    rw [join_eq]
    show kDown ++ SP ++ numbersText ws = Str.join SP (kDown :: ws.map fld)
    rw [join_cons SP _ (ne_map h)]
    show _ ++ Txt.join SP (ws.map fld) = _
    rw [join_eq]
  | .pages wss, h => by
    rw [join_eq]
    show Str.ofString "pages " ++ Txt.join SLS (wss.map numbersText) = Str.join SP (kPages :: pgF wss)
    rw [join_cons SP _ (pgF_ne h.1 h.2.2), join_eq, join_pg h.1 h.2.2, show Str.ofString "pages " = kPages ++ SP by decide +kernel]
theorem fld_free {n : Int} (h : okN n) {c : Nat} (hc : c < 48 ∨ 57 < c) : c ∉ tl (fld n) := by
  rw [fld_tl h]
  exact numL_free hc
theorem pgF_free : ∀ {wss : List (List Int)}, (∀ ws ∈ wss, wfW ws) → ∀ p ∈ pgF wss, 32 ∉ tl p
  | [], _, p, hp => by simp [pgF] at hp
  | [ws], hw, p, hp => by
    obtain ⟨n, hn, rfl⟩ := List.mem_map.mp (show p ∈ ws.map fld from hp)
    exact fld_free ((hw ws (by simp)).2.2 n hn) (by omega)
  | ws :: vs :: r, hw, p, hp => by
    have hp : p ∈ ws.map fld ++ SL :: pgF (vs :: r) := hp
    rcases List.mem_append.mp hp with h | h
    · obtain ⟨n, hn, rfl⟩ := List.mem_map.mp h
      exact fld_free ((hw ws (by simp)).2.2 n hn) (by omega)
    · rcases List.mem_cons.mp h with rfl | h
      · decide +kernel
      · exact pgF_free (wss := vs :: r) (fun x hx => hw x (List.mem_cons_of_mem _ hx)) p h
theorem rowFields_free : ∀ {r : Row}, r.wf → ∀ p ∈ rowFields r, 32 ∉ tl p
  | .split a b, h, p, hp => by
    have hp : p ∈ [kSplit, fld a, fld b] := hp
    simp only [List.mem_cons, List.not_mem_nil, or_false] at hp
    rcases hp with rfl | rfl | rfl
    · decide +kernel
    · exact fld_free h.1 (by omega)
    · exact fld_free h.2 (by omega)
  | .across ws, h, p, hp => by
    rcases List.mem_cons.mp (show p ∈ kAcross :: ws.map fld from hp) with rfl | hp
    · decide +kernel
    · obtain ⟨n, hn, rfl⟩ := List.mem_map.mp hp
      exact fld_free (h.2.2 n hn) (by omega)
  | .down ws, h, p, hp => by
    rcases List.mem_cons.mp (show p ∈ kDown :: ws.map fld from hp) with rfl | hp
    · decide +kernel
    · obtain ⟨n, hn, rfl⟩ := List.mem_map.mp hp
      exact fld_free (h.2.2 n hn) (by omega)
  | .pages wss, h, p, hp => by
    rcases List.mem_cons.mp (show p ∈ kPages :: pgF wss from hp) with rfl | hp
    · decide +kernel
    · exact pgF_free h.2.2 p hp
theorem fields_print {r : Row} (h : r.wf) : fieldsOf (printRow r) = rowFields r := by
  unfold fieldsOf
  rw [print_join h]
  refine split_join (s := 32) (S := []) (by decide +kernel) (by decide +kernel) ?_ (rowFields_free h)
  cases r <;> exact List.cons_ne_nil _ _
theorem fld_ne_SL {n : Int} (h : okN n) : fld n ≠ SL := fun e => by
  have z := fld_free h (c := 47) (by omega)
  rw [e] at z
  exact z (by decide +kernel)
theorem group_walk : ∀ (ws : List Int) (g : List (List Str)) (acc : List Str), (∀ n ∈ ws, okN n) → (ws.map fld).foldl groupStep (g ++ [acc]) = g ++ [acc ++ ws.map fld]
  | [], g, acc, _ => by simp
  | n :: ws, g, acc, h => by
    show (ws.map fld).foldl groupStep (groupStep (g ++ [acc]) (fld n)) = _
    have e : groupStep (g ++ [acc]) (fld n) = g ++ [acc ++ [fld n]] := by
      unfold groupStep
      rw [if_neg (fld_ne_SL (h n (by simp))), List.dropLast_concat, List.getLast?_concat]
      rfl
    rw [e, group_walk ws g (acc ++ [fld n]) (fun m hm => h m (List.mem_cons_of_mem _ hm))]
    simp
theorem groups_pg : ∀ (wss : List (List Int)) (g : List (List Str)), wss ≠ [] → (∀ ws ∈ wss, wfW ws) → (pgF wss).foldl groupStep (g ++ [[]]) = g ++ wss.map (·.map fld)
  | [], _, h, _ => absurd rfl h
  | [ws], g, _, hw => by
    show (ws.map fld).foldl groupStep (g ++ [[]]) = _
    rw [group_walk ws g [] (hw ws (by simp)).2.2]
    simp
  | ws :: vs :: r, g, _, hw => by
    show (ws.map fld ++ SL :: pgF (vs :: r)).foldl groupStep (g ++ [[]]) = _
    rw [List.foldl_append, group_walk ws g [] (hw ws (by simp)).2.2, List.foldl_cons]
    have e : groupStep (g ++ [[] ++ ws.map fld]) SL = (g ++ [ws.map fld]) ++ [[]] := by
      unfold groupStep
      rw [if_pos rfl, List.nil_append]
    rw [e, groups_pg (vs :: r) (g ++ [ws.map fld]) (by simp) (fun x hx => hw x (List.mem_cons_of_mem _ hx))]
    simp
theorem allSome_map {α β : Type} {f : β → Option α} {g : β → α} : ∀ {l : List β}, (∀ x ∈ l, f x = some (g x)) → allSome (l.map f) = some (l.map g)
  | [], _ => rfl
  | x :: l, h => by
    show allSome (f x :: l.map f) = _
    rw [h x (by simp)]
    show (allSome (l.map f)).map (g x :: ·) = _
    rw [allSome_map (fun y hy => h y (List.mem_cons_of_mem _ hy))]
    rfl
theorem readWalks_print {wss : List (List Int)} (h : wss ≠ []) (hw : ∀ ws ∈ wss, wfW ws) : readWalks (pgF wss) = some wss := by
  unfold readWalks groups
  have e := groups_pg wss [] h hw
  rw [List.nil_append, List.nil_append] at e
  rw [e, List.map_map]
  have z := allSome_map (f := readNumbers ∘ fun x => List.map fld x) (g := id) (l := wss) (fun ws hws => readNumbers_print (hw ws hws))
  rw [z, List.map_id]
theorem parse_print : ∀ {r : Row}, r.wf → parseRow (printRow r) = some r
  | .split a b, h => by
    unfold parseRow
    rw [fields_print h]
    show (if kSplit = kSplit then (if (isNumber (fld a) && isNumber (fld b)) = true then some (Row.split (numOf (fld a)) (numOf (fld b))) else none) else _) = _
    rw [if_pos rfl, fld_number h.1, fld_number h.2, numOf_fld h.1, numOf_fld h.2]
    rfl
  | .across ws, h => by
    unfold parseRow
    rw [fields_print h]
    show (if kAcross = kSplit then _ else if kAcross = kAcross then (readNumbers (ws.map fld)).map Row.across else _) = _
    rw [if_neg (by decide +kernel), if_pos rfl, readNumbers_print h]
    rfl
  | .down ws, h => by
    unfold parseRow
    rw [fields_print h]
    show (if kDown = kSplit then _ else if kDown = kAcross then _ else if kDown = kDown then (readNumbers (ws.map fld)).map Row.down else _) = _
    rw [if_neg (by decide +kernel), if_neg (by decide +kernel), if_pos rfl, readNumbers_print h]
    rfl
  | .pages wss, h => by
    unfold parseRow
    rw [fields_print h]
    show (if kPages = kSplit then _ else if kPages = kAcross then _ else if kPages = kDown then _ else if kPages = kPages then (readWalks (pgF wss)).map Row.pages else _) = _
    rw [if_neg (by decide +kernel), if_neg (by decide +kernel), if_neg (by decide +kernel), if_pos rfl, readWalks_print h.1 h.2.2]
    rfl

/-! ### a paper read -/
theorem paper_ok : ∀ {lines : List Str} {rs : List Row} {k : Nat}, lines.length = rs.length → (∀ (j : Nat) (l : Str) (r : Row), lines[j]? = some l → rs[j]? = some r → parseRow l = some r) → readPaper k lines = .inl rs
  | [], [], _, _, _ => rfl
  | [], _ :: _, _, h, _ => by simp at h
  | _ :: _, [], _, h, _ => by simp at h
  | l :: lines, r :: rs, k, h, hp => by
    unfold readPaper
    rw [hp 0 l r rfl rfl]
    show (match readPaper (k + 1) lines with | .inl rows => Sum.inl (r :: rows) | .inr k => .inr k) = _
    rw [paper_ok (rs := rs) (by simpa using h) (fun j l r h1 h2 => hp (j + 1) l r (by simpa using h1) (by simpa using h2))]
theorem paper_bad : ∀ {lines : List Str} {j k : Nat} {l : Str}, lines[j]? = some l → parseRow l = none → (∀ (i : Nat) (l' : Str), i < j → lines[i]? = some l' → parseRow l' ≠ none) → readPaper k lines = .inr (k + j)
  | [], _, _, _, h, _, _ => by simp at h
  | x :: lines, 0, k, l, h, hb, _ => by
    have e : x = l := Option.some.inj h
    subst e
    unfold readPaper
    rw [hb]
    rfl
  | x :: lines, j + 1, k, l, h, hb, hp => by
    unfold readPaper
    cases hx : parseRow x with
    | none => exact absurd hx (hp 0 x (by omega) rfl)
    | some r =>
      show (match readPaper (k + 1) lines with | .inl rows => Sum.inl (r :: rows) | .inr k => .inr k) = _
      rw [paper_bad (j := j) (l := l) (by simpa using h) hb (fun i l' hi hl => hp (i + 1) l' (by omega) (by simpa using hl))]
      show Sum.inr (k + 1 + j) = Sum.inr (k + (j + 1))
      rw [show k + 1 + j = k + (j + 1) by omega]
/-- what the law asks of lines of which those at the spots (ascending) may be changed -/
def dueGo : List Row → List Str → List Nat → List Row ⊕ Nat
  | told, _, [] => .inl told
  | told, lines, s :: r => match parseRow (lines.getD s Str.empty) with
    | none => .inr (s + 1)
    | some row => dueGo (told.set s row) lines r
theorem due_is : ∀ {spots : List Nat} {rows : List Row} {lines : List Str}, lines.length = rows.length → (∀ s ∈ spots, s < rows.length) → spots.Pairwise (· ≤ ·) →
    (∀ (j : Nat) (l : Str) (r : Row), j ∉ spots → lines[j]? = some l → rows[j]? = some r → parseRow l = some r) → readPaper 1 lines = dueGo rows lines spots
  | [], rows, lines, h, _, _, hp => paper_ok h fun j l r h1 h2 => hp j l r (by simp) h1 h2
  | s :: spots, rows, lines, h, hs, hpw, hp => by
    have hlt : s < lines.length := by rw [h]; exact hs s (by simp)
    have hl : lines[s]? = some (lines.getD s Str.empty) := by
      rw [List.getD_eq_getElem?_getD, List.getElem?_eq_getElem hlt]
      rfl
    obtain ⟨hle, hpw⟩ := List.pairwise_cons.mp hpw
    show readPaper 1 lines = (match parseRow (lines.getD s Str.empty) with
    | none => .inr (s + 1)
    | some row => dueGo (rows.set s row) lines spots)
    cases hb : parseRow (lines.getD s Str.empty) with
    | none =>
      rw [paper_bad hl hb (fun i l' hi hl' e => ?_)]
      · show Sum.inr (1 + s) = Sum.inr (s + 1)
        rw [Nat.add_comm]
      · have hir : i < rows.length := by rw [← h]; omega
        have z := hp i l' rows[i] (fun hm => by
          rcases List.mem_cons.mp hm with q | q
          · omega
          · have := hle i q
            omega) hl' (List.getElem?_eq_getElem hir)
        rw [z] at e
        cases e
    | some row =>
      refine due_is (by rw [List.length_set]; exact h) (fun x hx => by rw [List.length_set]; exact hs x (List.mem_cons_of_mem _ hx)) hpw fun j l r hj h1 h2 => ?_
      by_cases e : j = s
      · subst e
        rw [List.getElem?_set_self (by rw [← h]; exact hlt)] at h2
        rw [hl] at h1
        rw [← Option.some.inj h1, ← Option.some.inj h2]
        exact hb
      · rw [List.getElem?_set_ne (fun q => e q.symm)] at h2
        exact hp j l r (fun hm => by
          rcases List.mem_cons.mp hm with q | q
          · exact e q
          · exact hj q) h1 h2
end K54

namespace K54
open PySem PySem.Spec PyProof.Rows TL L2 L3
set_option autoImplicit false
def topS (i : Nat) : Stmt := PySem.Challenge.pw_sheetsofcells_k54_papers_as_lines.main.body.getD i (.Pass ⟨0, 0, 0, 0⟩)
structure Txt (mg : Str → Option Value) : Prop where
  z_abs : mg "abs" = none
  z_enumerate : mg "enumerate" = none
  z_int : mg "int" = none
  z_bool : mg "bool" = none
  z_isinstance : mg "isinstance" = none
  z_len : mg "len" = none
  z_list : mg "list" = none
  z_min : mg "min" = none
  z_range : mg "range" = none
  z_sorted : mg "sorted" = none
  z_str : mg "str" = none
  z_tuple : mg "tuple" = none
  c_DIGITS : ∃ u, mg "DIGITS" = some u ∧ RelV (.str "0123456789") u
  c_MOST_DIGITS : ∃ u, mg "MOST_DIGITS" = some u ∧ RelV (.int 9) u
/-! ### data -/
def NumsV (K : PySem.W.Frag) (H : Hp) (v : V) (ns : List Int) : Prop := ∃ p, v = .ref p ∧ SqT K H p (ns.map V.int)
def WalksV (K : PySem.W.Frag) (H : Hp) (v : V) (wss : List (List Int)) : Prop := ∃ p qs, v = .ref p ∧ SqT K H p qs ∧ All2 (NumsV K H) qs wss
def RowV (K : PySem.W.Frag) (H : Hp) (v : V) : Row → Prop
  | .split a b => ∃ p, v = .ref p ∧ SqT K H p [.str kSplit, .int a, .int b]
  | .across ws => ∃ p q, v = .ref p ∧ SqT K H p [.str kAcross, q] ∧ NumsV K H q ws
  | .down ws => ∃ p q, v = .ref p ∧ SqT K H p [.str kDown, q] ∧ NumsV K H q ws
  | .pages wss => ∃ p q, v = .ref p ∧ SqT K H p [.str kPages, q] ∧ WalksV K H q wss
section
variable {K : PySem.W.Frag} {H H' : Hp} {v : V}
theorem NumsV.mono (t : TSm K H H') {ns : List Int} (h : NumsV K H v ns) : NumsV K H' v ns := by
  obtain ⟨p, e, q⟩ := h
  exact ⟨p, e, t _ _ q⟩
theorem WalksV.mono (t : TSm K H H') {wss : List (List Int)} (h : WalksV K H v wss) : WalksV K H' v wss := by
  obtain ⟨p, qs, e, q, r⟩ := h
  exact ⟨p, qs, e, t _ _ q, r.mono fun _ _ h => h.mono t⟩
theorem RowV.mono (t : TSm K H H') : ∀ {r : Row}, RowV K H v r → RowV K H' v r
  | .split _ _, ⟨p, e, q⟩ => ⟨p, e, t _ _ q⟩
  | .across _, ⟨p, q, e, h, r⟩ => ⟨p, q, e, t _ _ h, r.mono t⟩
  | .down _, ⟨p, q, e, h, r⟩ => ⟨p, q, e, t _ _ h, r.mono t⟩
  | .pages _, ⟨p, q, e, h, r⟩ => ⟨p, q, e, t _ _ h, r.mono t⟩
end
/-! ### sizes of fields -/
theorem spl_sum : ∀ (S : List Nat) (k : Nat) (acc l : List Nat), ((spl S k acc l).map List.length).sum ≤ acc.length + l.length
  | S, k, acc, [] => by cases k <;> simp [spl]
  | S, 0, acc, c :: r => by
    unfold spl
    split
    · rw [List.map_cons, List.sum_cons]
      have := spl_sum S (S.length - 1) [] r
      simp at this ⊢
      omega
    · have := spl_sum S 0 (acc ++ [c]) r
      simp at this ⊢
      omega
  | S, k + 1, acc, c :: r => by
    have := spl_sum S k acc r
    show ((spl S k acc r).map List.length).sum ≤ _
    simp at this ⊢
    omega
theorem fields_sum (z : Str) : ((fieldsOf z).map Str.length).sum ≤ z.length := by
  have e : (fieldsOf z).map tl = spl (tl SP) 0 [] (tl z) := split_spl z SP (by decide +kernel) (by
    have h1 : Builtin.Str.strKind SP = 1 := by decide +kernel
    rw [h1]
    unfold Builtin.Str.strKind
    split <;> first | omega | (split <;> omega))
  have h := spl_sum (tl SP) 0 [] (tl z)
  rw [← e, List.map_map] at h
  have e2 : (fieldsOf z).map (List.length ∘ tl) = (fieldsOf z).map Str.length := List.map_congr_left fun p _ => (len_tl (x := p)).symm
  rw [e2] at h
  have e3 : (tl z).length = z.length := (len_tl (x := z)).symm
  simp only [List.length_nil, Nat.zero_add, e3] at h
  exact h
theorem mem_sum : ∀ {l : List Str} {p : Str}, p ∈ l → p.length ≤ (l.map Str.length).sum
  | x :: l, p, h => by
    rw [List.map_cons, List.sum_cons]
    rcases List.mem_cons.mp h with rfl | h
    · omega
    · have := mem_sum h
      omega
theorem field_len {z p : Str} (h : p ∈ fieldsOf z) : p.length ≤ z.length := Nat.le_trans (mem_sum h) (fields_sum z)
theorem fields_len (z : Str) : (fieldsOf z).length ≤ z.length + 2 := PyProof.Rows.split_le z SP
end K54

namespace K54
open PySem PySem.Spec PyProof.Rows TL L2 L3
section
variable {P : Program} {w : World} {K : PySem.W.Frag} {mg : Str → Option Value} {base : Heap}
def spIsNumber : Sp := fun vs H Q _ => ∃ z : Str, vs = [.str z] ∧ z.length ≤ 100000 ∧ Q (.bl (isNumber z)) H
theorem sc_is_number : FnScope ["field", "sign"] ["field"] (defScope (topS 6)) := ⟨rfl, rfl, rfl, by decide +kernel, rfl, by decide +kernel, by decide +kernel⟩
theorem isDig_in (c : Nat) : decide (c ∈ (Str.ofString "0123456789").cps.toList) = isDig c := by
  have e : (Str.ofString "0123456789").cps.toList = [48, 49, 50, 51, 52, 53, 54, 55, 56, 57] := by decide +kernel
  rw [e]
  unfold isDig
  simp only [List.mem_cons, List.not_mem_nil, or_false]
  apply decide_eq_decide.mpr
  omega
theorem ok_is_number {f : Addr} {fd : FuncData} {k : Nat} (F : Fun K "is_number" "is_number" (topS 6) f fd) (T : Txt mg) : FnOk P w K mg base (L2.CX P w) (k + 1) f fd ["field"] spIsNumber := by
  refine F.okX sc_is_number (fun vs H Q E h => ?_) (fun cdv A outer s H vs Q E hr h => ?_)
  · obtain ⟨z, rfl, _⟩ := h
    rfl
  · obtain ⟨z, rfl, hz, q⟩ := h
    refine ⟨_, (pss_cons (ps_if (pt_not (pt_chain op_lt op_le pe_int (pe_callB (call_lenK K rfl) (by rfl) T.z_len PySem.boot_len (pa_cons (pv 0) pa_nil)) (pe_gl rfl T.c_MOST_DIGITS))) (pss_one (ps_ret pe_bl)) pss_nil)
  (pss_cons (ps_for (passes_of rfl) rfl (pi_anyK K rfl (pv 0)) (pg_name (i := 1) sc_is_number.nd rfl (by first | exact Or.inl rfl | exact Or.inr rfl))
   (pss_one (ps_if (pt_cmpR (opNotInK K rfl) (pv 1) (pe_gl rfl T.c_DIGITS) (by rfl)) (pss_one (ps_ret pe_bl)) pss_nil)))
  (pss_one (ps_ret (pe_or (pe_cmpR opEq (pe_callB (call_lenK K rfl) (by rfl) T.z_len PySem.boot_len (pa_cons (pv 0) pa_nil)) pe_int (nomark _)) (pe_one (pe_cmpR opNe (pe_ix (ixK K rfl) (pv 0) pe_int (fun _ _ => rfl)) pe_str (nomark _)))))))), ?_⟩
    have hv : Val (tVar 0) [some (V.str z), none] H (.str z) := val_var rfl
    have hl := vl_str (K := K) hv (by omega : z.length ≤ 16000000)
    refine st_if (¬ (0 < z.length ∧ z.length ≤ 9)) ?_ (fun h => ?_) (fun h => ?_)
    · refine (a_not (a_chain val_c hl val_c)).dec ?_
      rw [Bool.not_eq_true', Bool.and_eq_false_iff, decide_eq_false_iff_not, decide_eq_false_iff_not]
      omega
    · have e : isNumber z = false := by
        unfold isNumber
        rw [decide_eq_false h]
        rfl
      rw [e] at q
      exact q
    · have h : 0 < z.length ∧ z.length ≤ 9 := Classical.not_not.mp h
      refine .inr (.inr ⟨.str z, rfl, z, rfl, for_it walk_str (fun i σ H' => H' = H ∧ (∃ y, σ = [some (V.str z), y]) ∧ ((tl z).take i).all isDig = true) ⟨rfl, ⟨none, rfl⟩, rfl⟩ (fun _ _ _ _ _ => trivial) ?_ ?_⟩)
      · rintro i x σ H1 H2 hi ⟨rfl, ⟨y, rfl⟩, hd⟩ ⟨rfl, c, hc, rfl⟩
        have hc' : (tl z)[i]? = some c := by
          show z.cps.toList[i]? = some c
          rw [Array.getElem?_toList]
          exact hc
        have et : (tl z).take (i + 1) = (tl z).take i ++ [c] := by
          rw [List.take_add_one, hc']
          rfl
        refine st_ifB (!isDig c) ?_ (fun h => ?_) (fun h => ?_)
        · exact (a_t (v_notIn (val_var rfl) val_c)).to' (by rw [isDig_in])
        · have e : isNumber z = false := by
            unfold isNumber
            have : (tl z).all isDig = false := by
              rw [List.all_eq_false]
              exact ⟨c, List.mem_of_getElem? hc', by simpa using h⟩
            rw [this, Bool.and_false, Bool.false_and]
          rw [e] at q
          exact q
        · refine ⟨rfl, ⟨_, rfl⟩, ?_⟩
          rw [et, List.all_append, hd]
          simpa using h
      · rintro σ H1 ⟨rfl, ⟨y, rfl⟩, hd⟩
        have hv : Val (tVar 0) [some (V.str z), y] H1 (.str z) := val_var rfl
        have hl := vl_str (K := K) hv (by omega : z.length ≤ 16000000)
        have hsz : (tl z).length = z.length := (len_tl (x := z)).symm
        rw [List.take_of_length_le (by show (tl z).length ≤ z.length; omega)] at hd
        obtain ⟨c, r, hcr⟩ : ∃ c r, tl z = c :: r := by
          cases e : tl z with
          | nil => rw [e] at hsz; simp at hsz; omega
          | cons c r => exact ⟨c, r, rfl⟩
        have hx : Val (tOp (rIx K) (tVar 0) (tC (.int 0))) [some (V.str z), y] H1 (.str ⟨#[c]⟩) := vx_s hv val_c (by omega) (atI_nat (j := 0) (by
          show (tl z)[0]? = some c
          rw [hcr]
          rfl))
        refine v_or (v_eqI hl val_c) (fun _ => v_neS hx val_c) _ ?_
        have e : isNumber z = (decide ((z.length : Int) = 1) || !decide ((⟨#[c]⟩ : Str) = "0")) := by
          unfold isNumber
          rw [decide_eq_true h, hd, hcr]
          have e1 : decide (z.length = 1) = decide ((z.length : Int) = 1) := decide_eq_decide.mpr (by omega)
          have e2 : decide ((c :: r)[0]? ≠ some 48) = !decide ((⟨#[c]⟩ : Str) = "0") := by
            have e3 : ((⟨#[c]⟩ : Str) = "0") ↔ c = 48 := by
              constructor
              · intro e
                have : tl ⟨#[c]⟩ = tl (Str.ofString "0") := congrArg tl e
                have e4 : tl (Str.ofString "0") = [48] := by decide +kernel
                rw [e4] at this
                exact (List.cons.inj this).1
              · rintro rfl
                decide +kernel
            by_cases hc : c = 48
            · rw [decide_eq_true (e3.mpr hc), hc]
              rfl
            · rw [decide_eq_false (fun z => hc (e3.mp z))]
              exact decide_eq_true fun z => hc (Option.some.inj z)
          rw [e1, e2]
          rfl
        rw [e] at q
        exact q
end
end K54

namespace K54
open PySem PySem.Spec PyProof.Rows TL L2 L3
section
variable {P : Program} {w : World} {K : PySem.W.Frag} {mg : Str → Option Value} {base : Heap} {C fI : Addr} {dI : FuncData}
abbrev BadM (P : Program) (w : World) (K : PySem.W.Frag) (mg : Str → Option Value) (base : Heap) (C fI : Addr) (dI : FuncData) : Prop := BadT P w K mg base 1 "BadMark" "line" ["self", "line"] C fI dI
def okL (i : Int) : Prop := 0 ≤ i ∧ i < 10 ^ 9
def spReadNumber (C : Addr) : Sp := fun vs H Q E => ∃ (z : Str) (i : Int), vs = [.str z, .int i] ∧ z.length ≤ 100000 ∧ okL i ∧ (isNumber z = true → Q (.int (numOf z)) H) ∧ (isNumber z = false → Raises1 C "line" i H E)
theorem sc_read_number : FnScope ["field", "at"] ["field", "at"] (defScope (topS 7)) := ⟨rfl, rfl, rfl, by decide +kernel, rfl, by decide +kernel, by decide +kernel⟩
theorem ok_read_number {f : Addr} {fd : FuncData} (F : Fun K "read_number" "read_number" (topS 7) f fd) (T : Txt mg) (B : BadM P w K mg base C fI dI) {f1 : Addr} {d1 : FuncData} (G_is_number : Cal P w K mg base 1 "is_number" ["field"] spIsNumber f1 d1) :
    FnOk P w K mg base (L2.CX P w) 3 f fd ["field", "at"] (spReadNumber C) := by
  refine F.okX sc_read_number (fun vs H Q E h => ?_) (fun cdv A outer s H vs Q E hr h => ?_)
  · obtain ⟨z, i, rfl, _⟩ := h
    rfl
  · obtain ⟨z, i, rfl, hz, hi, q1, q2⟩ := h
    refine ⟨_, (pss_cons (ps_if (pt_not (pt_truK K rfl (pe_call G_is_number.ok (hr.mono (by first | decide | exact Nat.le_refl _)) rfl G_is_number.mg G_is_number.kp G_is_number.bi .nil passL (pa_cons (pv 0) pa_nil)))) (pss_one (ps_raise rfl (takes_of rfl rfl rfl rfl) (pmk_1 B.ox B.iC B.tI B.ok (hr.mono (by decide)) B.bi rfl B.mg (pa_cons (pv 1) pa_nil)))) pss_nil)
  (pss_one (ps_ret (pe_callTy call_intOf (by rfl) T.z_int (by decide +kernel) (pa_cons (pv 0) pa_nil))))), ?_⟩
    have hv : Val (tVar 0) [some (V.str z), some (V.int i)] H (.str z) := val_var rfl
    refine st_ifB (!isNumber z) (a_not (a_tru fun Q q => ⟨.str z, rfl, z, rfl, hz, q⟩)) (fun h => ?_) (fun h => ?_)
    · refine ⟨.int i, rfl, i, rfl, hi.1, hi.2, fun d H' s nd e => ?_⟩
      exact q2 (by simpa using h) d H' s nd e
    · have h : isNumber z = true := by simpa using h
      exact v_intS hv (intText_number h) (by have := isNumber_facts h; omega) _ (q1 h)
/-! ### -/
def spReadNumbers (K : PySem.W.Frag) (C : Addr) : Sp := fun vs H Q E => ∃ (p : Addr) (zs : List Str) (i : Int), vs = [.ref p, .int i] ∧ SqL K H p (zs.map V.str) ∧ (∀ z ∈ zs, z.length ≤ 100000) ∧ zs.length ≤ 200000 ∧ okL i ∧
  (∀ ns, readNumbers zs = some ns → ∀ v H', Same H H' → NumsV K H' v ns → Q v H') ∧ (readNumbers zs = none → Raises1 C "line" i H E)
theorem sc_read_numbers : FnScope ["fields", "at", "field"] ["fields", "at"] (defScope (topS 8)) := ⟨rfl, rfl, rfl, by decide +kernel, rfl, by decide +kernel, by decide +kernel⟩
theorem readNumbers_none {zs : List Str} {z : Str} (h : z ∈ zs) (b : isNumber z = false) : readNumbers zs = none := by
  unfold readNumbers
  split
  · rfl
  · rw [if_neg]
    intro e
    have := List.all_eq_true.mp e z h
    rw [b] at this
    cases this
theorem readNumbers_some {zs : List Str} (h : zs ≠ []) (b : ∀ z ∈ zs, isNumber z = true) : readNumbers zs = some (zs.map numOf) := by
  unfold readNumbers
  rw [if_neg h, if_pos (List.all_eq_true.mpr b)]
theorem ok_read_numbers {f : Addr} {fd : FuncData} (F : Fun K "read_numbers" "read_numbers" (topS 8) f fd) (T : Txt mg) (B : BadM P w K mg base C fI dI) {f1 : Addr} {d1 : FuncData} (G_read_number : Cal P w K mg base 3 "read_number" ["field", "at"] (spReadNumber C) f1 d1) :
    FnOk P w K mg base (L2.CX P w) 4 f fd ["fields", "at"] (spReadNumbers K C) := by
  refine F.okX sc_read_numbers (fun vs H Q E h => ?_) (fun cdv A outer s H vs Q E hr h => ?_)
  · obtain ⟨p, zs, i, rfl, _⟩ := h
    rfl
  · obtain ⟨p, zs, i, rfl, hp, hz, hl, hi, q1, q2⟩ := h
    refine ⟨_, (pss_cons (ps_if (pt_cmpR opEq (pe_callB (call_lenK K rfl) (by rfl) T.z_len PySem.boot_len (pa_cons (pv 0) pa_nil)) pe_int (nomark _)) (pss_one (ps_raise rfl (takes_of rfl rfl rfl rfl) (pmk_1 B.ox B.iC B.tI B.ok (hr.mono (by decide)) B.bi rfl B.mg (pa_cons (pv 1) pa_nil)))) pss_nil)
  (pss_one (ps_ret (pe_callTy (call_tupleK K rfl) (by rfl) T.z_tuple (by decide +kernel) (pa_cons (pe_lcX (own := [("field", 2)]) (g := (gName 2)) rfl sc_read_numbers.nd rfl rfl (takes_of rfl rfl rfl rfl) (pi_anyK K rfl (pv 0)) (blkOk_by (N := ["fields", "at", "field"]) (sc := defScope (topS 8)) (by decide +kernel)) (fun _ _ _ _ _ _ => (pg_name (i := 2) sc_read_numbers.nd rfl (by first | exact Or.inl rfl | exact Or.inr rfl))) (fun _ _ _ _ _ _ => pts_nil) (fun _ _ _ _ _ _ _ pas => (pe_callS G_read_number.ok (hr.mono (by first | decide | exact Nat.le_refl _)) rfl G_read_number.mg G_read_number.kp G_read_number.bi pas (pa_cons (pv 2) (pa_cons (pv 1) pa_nil))))) pa_nil))))), ?_⟩
    have hv : Val (tVar 0) [some (V.ref p), some (V.int i), none] H (.ref p) := val_var rfl
    refine st_if (zs = []) ((a_t (v_eqI (vl_l hv hp) val_c)).dec ?_) (fun h => ?_) (fun h => ?_)
    · rw [decide_eq_true_eq, List.length_map]
      constructor
      · intro e
        exact List.length_eq_zero_iff.mp (by omega)
      · rintro rfl
        rfl
    · refine ⟨.int i, rfl, i, rfl, hi.1, hi.2, fun d H' s nd e => ?_⟩
      exact q2 (by rw [h]; rfl) d H' s nd e
    · refine un_next ?_
      dsimp only
      refine un_ret (un_cb1 (un_lcX ?_))
      refine lc_seq (K := K) (xs := zs.map V.str) hv (.inl hp) (fun i y _ => ∃ z, zs[i]? = some z ∧ isNumber z = true ∧ y = .int (numOf z)) (fun _ _ _ _ _ h => h) (by rw [List.length_map]; omega) ?_ ?_
      · rintro j x H' hx s
        rw [List.getElem?_map] at hx
        obtain ⟨z, ez, rfl⟩ := Option.map_eq_some_iff.mp hx
        refine ⟨rfl, fun Qy q => ⟨.str z, rfl, .int i, rfl, z, i, rfl, hz z (List.mem_of_getElem? ez), hi, fun hn => ?_, fun hn => ?_⟩⟩
        · exact q _ _ (Same.refl _) ⟨z, ez, hn, rfl⟩
        · exact (q2 (readNumbers_none (List.mem_of_getElem? ez) hn)).back s
      · intro D ys H' hD s hy hly hr
        have hb : ∀ z ∈ zs, isNumber z = true := by
          intro z hz
          obtain ⟨j, hj⟩ := List.mem_iff_getElem?.mp hz
          have hlt : j < ys.length := by
            rw [hly, List.length_map]
            exact (List.getElem?_eq_some_iff.mp hj).1
          obtain ⟨z', ez, hn, _⟩ := hr j _ (List.getElem?_eq_getElem hlt)
          rw [hj] at ez
          cases Option.some.inj ez
          exact hn
        have ey : ys = (zs.map numOf).map V.int := by
          rw [List.map_map]
          refine map_by_place (by rw [hly, List.length_map]) fun j v hv => ?_
          obtain ⟨z, ez, _, e⟩ := hr j v hv
          exact ⟨z, ez, e⟩
        refine ⟨D, ys, rfl, .inl ⟨.inl (.inl hy), fun l hl => ?_⟩⟩
        refine q1 _ (readNumbers_some h hb) _ _ (same_mut s (s.free hl)) ⟨l, rfl, ?_⟩
        rw [← ey]
        exact sqt_new
/-! ### -/
def spNumbersText (K : PySem.W.Frag) : Sp := fun vs H Q _ => ∃ (v : V) (ns : List Int), vs = [v] ∧ NumsV K H v ns ∧ (∀ n ∈ ns, okN n) ∧ ns.length ≤ 10000 ∧ ∀ H', Same H H' → Q (.str (numbersText ns)) H'
theorem sc_numbers_text : FnScope ["numbers", "number"] ["numbers"] (defScope (topS 9)) := ⟨rfl, rfl, rfl, by decide +kernel, rfl, by decide +kernel, by decide +kernel⟩
theorem str_fld {n : Int} (h : okN n) {te : TE} {σ : L2.St} {H : Hp} (hv : Val te σ H (.int n)) : Val (tCB (fun xs H Q => ∃ i, xs = [V.int i] ∧ i.natAbs.log2 < 1920 ∧ Q (.str (toString i)) H) (tCons te tNil)) σ H (.str (fld n)) := v_strI hv (log2_small h.1 h.2)
/-- ' '.join of texts of numbers, a new list at D -/
theorem join_nums {H' : Hp} {D : Addr} {ys : List V} {ns : List Int} {Q : VK} {sep : Str} (hs : sep.length ≤ 100) (hok : ∀ n ∈ ns, okN n) (hn : ns.length ≤ 10000) (hy : H' D = some (.lst ys)) (hl : ys.length = ns.length) (hr : ∀ (i : Nat) (y : V), ys[i]? = some y → ∃ n, ns[i]? = some n ∧ y = .str (fld n))
    (q : Q (.str (Txt.join sep (ns.map fld))) H') : ∃ (a : Str) (p : Addr) (zs : List Str), V.str sep = V.str a ∧ [V.ref D] = [V.ref p] ∧ (SqL K H' p (zs.map V.str) ∨ SqT K H' p (zs.map V.str)) ∧ (zs.map Str.length).sum + zs.length * a.length ≤ 16777216 ∧ Q (.str (Txt.join a zs)) H' := by
  have ey : ys = (ns.map fld).map V.str := by
    rw [List.map_map]
    exact map_by_place hl hr
  refine ⟨sep, D, ns.map fld, rfl, rfl, .inl (.inl (.inl (by rw [← ey]; exact hy))), ?_, q⟩
  have h1 : ((ns.map fld).map Str.length).sum ≤ (ns.map fld).length * 9 := sum_le fun z hz => by
    obtain ⟨n, hn, rfl⟩ := List.mem_map.mp hz
    exact fld_len (hok n hn)
  rw [List.length_map] at h1 ⊢
  have h2 : ns.length * sep.length ≤ 10000 * 100 := Nat.mul_le_mul hn hs
  omega
theorem ok_numbers_text {f : Addr} {fd : FuncData} (F : Fun K "numbers_text" "numbers_text" (topS 9) f fd) (T : Txt mg) : FnOk P w K mg base (L2.CX P w) 1 f fd ["numbers"] (spNumbersText K) := by
  refine F.okX sc_numbers_text (fun vs H Q E h => ?_) (fun cdv A outer s H vs Q E hr h => ?_)
  · obtain ⟨v, ns, rfl, _⟩ := h
    rfl
  · obtain ⟨v, ns, rfl, ⟨p, rfl, hp⟩, hok, hn, q⟩ := h
    refine ⟨_, (pss_one (ps_ret (pe_joinK K rfl pe_str (pe_lc (own := [("number", 1)]) (g := (gName 1)) rfl sc_numbers_text.nd (pi_anyK K rfl (pv 0)) (blkOk_by (N := ["numbers", "number"]) (sc := defScope (topS 9)) (by decide +kernel)) (fun _ _ _ _ _ => (pg_name (i := 1) sc_numbers_text.nd rfl (by first | exact Or.inl rfl | exact Or.inr rfl))) (fun _ _ _ _ _ => pts_nil) (fun _ _ _ _ _ => (pe_callTy call_str_int (by rfl) T.z_str (by decide +kernel) (pa_cons (pv 1) pa_nil))))))), ?_⟩
    have hv : Val (tVar 0) [some (V.ref p), none] H (.ref p) := val_var rfl
    refine un_ret (un_m1 val_c ?_)
    refine lc_seq (K := K) (xs := ns.map V.int) hv (.inr hp) (fun i y _ => ∃ n, ns[i]? = some n ∧ y = .str (fld n)) (fun _ _ _ _ _ h => h) (by rw [List.length_map]; omega) ?_ ?_
    · rintro j x H' hx s
      rw [List.getElem?_map] at hx
      obtain ⟨n, en, rfl⟩ := Option.map_eq_some_iff.mp hx
      exact ⟨rfl, fun Qy q => str_fld (hok n (List.mem_of_getElem? en)) (val_var rfl) _ (q _ _ (Same.refl _) ⟨n, en, rfl⟩)⟩
    · intro D ys H' hD s hy hly hr
      exact join_nums (by decide +kernel) hok hn hy (by rw [hly, List.length_map]) hr (q H' s)
end
end K54

namespace K54
open PySem PySem.Spec PyProof.Rows TL L2 L3
/-! ### texts put together -/
theorem empty_app (x : Str) : Str.empty ++ x = x := by
  apply ext_tl
  rw [tl_append]
  rfl
theorem app_len (x y : Str) : (x ++ y).length = x.length + y.length := Str.length_append x y
section
variable {te : TE} {ts : List TE} {acc a : Str} {σ : L2.St} {H : Hp} {Q : Str → Hp → Prop} {i : Int}
theorem js_lit (hz : acc.length + a.length ≤ 16000000) (h : tJs ts (acc ++ a) σ H Q) : tJs (tC (.str a) :: ts) acc σ H Q := ⟨a, rfl, by rw [app_len]; exact sz_le hz, h⟩
theorem js_int (hv : Val te σ H (.int i)) (hi : okN i) (hz : acc.length + 9 ≤ 16000000) (h : tJs ts (acc ++ fld i) σ H Q) : tJs (tFmt te :: ts) acc σ H Q := hv _ (.inr ⟨i, rfl, log2_small hi.1 hi.2, fld i, rfl, by
  have := str_small hi.1 hi.2
  have e : (fld i).length ≤ 9 := this
  rw [app_len]; exact sz_le (by omega), h⟩)
theorem js_str (hv : Val te σ H (.str a)) (hz : acc.length + a.length ≤ 16000000) (h : tJs ts (acc ++ a) σ H Q) : tJs (tFmt te :: ts) acc σ H Q := hv _ (.inl ⟨a, rfl, sz_le (by omega), a, rfl, by rw [app_len]; exact sz_le hz, h⟩)
end
theorem join_len {sep : Str} {B : Nat} : ∀ {l : List Str}, (∀ z ∈ l, z.length ≤ B) → (Txt.join sep l).length ≤ l.length * (B + sep.length)
  | [], _ => by
    rw [join_eq]
    exact Nat.zero_le _
  | [x], h => by
    rw [join_eq]
    have := h x (by simp)
    show x.length ≤ 1 * (B + sep.length)
    omega
  | x :: y :: r, h => by
    have ih := join_len (sep := sep) (l := y :: r) (B := B) fun z hz => h z (List.mem_cons_of_mem _ hz)
    rw [join_eq] at ih ⊢
    rw [join_cons sep x (by simp), app_len, app_len]
    have := h x (by simp)
    rw [List.length_cons, Nat.succ_mul]
    omega
theorem nt_len {ns : List Int} (h : ∀ n ∈ ns, okN n) : (numbersText ns).length ≤ ns.length * 10 := by
  unfold numbersText
  have h1 := join_len (sep := SP) (l := ns.map fld) (B := 9) fun z hz => by
    obtain ⟨n, hn, rfl⟩ := List.mem_map.mp hz
    exact fld_len (h n hn)
  rw [List.length_map] at h1
  exact h1
theorem ntw_len {ns : List Int} (h : wfW ns) : (numbersText ns).length ≤ 600 := by
  have := nt_len h.2.2
  have := h.2.1
  omega
theorem pr_len : ∀ {r : Row}, r.wf → (printRow r).length ≤ 7000
  | .split a b, h => by
    show (Str.ofString "split " ++ fld a ++ SP ++ fld b).length ≤ _
    rw [app_len, app_len, app_len]
    have h1 := fld_len h.1
    have h2 := fld_len h.2
    have h3 : (Str.ofString "split ").length = 6 := by decide +kernel
    have h4 : SP.length = 1 := by decide +kernel
    omega
  | .across ws, h => by
    show (kAcross ++ SP ++ numbersText ws).length ≤ _
    rw [app_len, app_len]
    have h1 := ntw_len h
    have h3 : kAcross.length = 6 := by decide +kernel
    have h4 : SP.length = 1 := by decide +kernel
    omega
  | .down ws, h => by
    show (kDown ++ SP ++ numbersText ws).length ≤ _
    rw [app_len, app_len]
    have h1 := ntw_len h
    have h3 : kDown.length = 4 := by decide +kernel
    have h4 : SP.length = 1 := by decide +kernel
    omega
  | .pages wss, h => by
    show (Str.ofString "pages " ++ Txt.join SLS (wss.map numbersText)).length ≤ _
    rw [app_len]
    have h1 := join_len (sep := SLS) (l := wss.map numbersText) (B := 600) fun z hz => by
      obtain ⟨n, hn, rfl⟩ := List.mem_map.mp hz
      exact ntw_len (h.2.2 n hn)
    rw [List.length_map] at h1
    have h2 := h.2.1
    have h3 : (Str.ofString "pages ").length = 6 := by decide +kernel
    have h4 : SLS.length = 3 := by decide +kernel
    rw [h4] at h1
    omega
/-- texts joined, a new list at D -/
theorem join_texts {α : Type} {K : PySem.W.Frag} {H' : Hp} {D : Addr} {ys : List V} {as : List α} {g : α → Str} {sep : Str} {B : Nat} (hB : B ≤ 1000) (hs : sep.length ≤ 100) (hok : ∀ a ∈ as, (g a).length ≤ B) (hn : as.length ≤ 10000) (hy : H' D = some (.lst ys)) (hl : ys.length = as.length) (hr : ∀ (i : Nat) (y : V), ys[i]? = some y → ∃ n, as[i]? = some n ∧ y = .str (g n)) :
    SqL K H' D ((as.map g).map V.str) ∧ ((as.map g).map Str.length).sum + (as.map g).length * sep.length ≤ 16777216 := by
  have ey : ys = (as.map g).map V.str := by
    rw [List.map_map]
    exact map_by_place hl hr
  refine ⟨.inl (.inl (by rw [← ey]; exact hy)), ?_⟩
  have h1 : ((as.map g).map Str.length).sum ≤ (as.map g).length * B := sum_le fun z hz => by
    obtain ⟨n, hn, rfl⟩ := List.mem_map.mp hz
    exact hok n hn
  rw [List.length_map] at h1 ⊢
  have h2 : as.length * sep.length ≤ 10000 * 100 := Nat.mul_le_mul hn hs
  have h3 : as.length * B ≤ 10000 * 1000 := Nat.mul_le_mul hn hB
  omega
section
variable {P : Program} {w : World} {K : PySem.W.Frag} {mg : Str → Option Value} {base : Heap} {C fI : Addr} {dI : FuncData}
def _root_.K54.Row.kind : Row → Str
  | .split _ _ => kSplit
  | .across _ => kAcross
  | .down _ => kDown
  | .pages _ => kPages
theorem row_head {H : Hp} {v : V} : ∀ {r : Row}, RowV K H v r → ∃ p rest, v = .ref p ∧ SqT K H p (.str r.kind :: rest)
  | .split _ _, ⟨p, e, h⟩ => ⟨p, _, e, h⟩
  | .across _, ⟨p, _, e, h, _⟩ => ⟨p, _, e, h⟩
  | .down _, ⟨p, _, e, h, _⟩ => ⟨p, _, e, h⟩
  | .pages _, ⟨p, _, e, h, _⟩ => ⟨p, _, e, h⟩
def spPrintRow (K : PySem.W.Frag) : Sp := fun vs H Q _ => ∃ (v : V) (r : Row), vs = [v] ∧ RowV K H v r ∧ r.wf ∧ ∀ H', Same H H' → Q (.str (printRow r)) H'
theorem sc_print_row : FnScope ["row", "walk"] ["row"] (defScope (topS 11)) := ⟨rfl, rfl, rfl, by decide +kernel, rfl, by decide +kernel, by decide +kernel⟩
theorem ok_print_row {f : Addr} {fd : FuncData} (F : Fun K "print_row" "print_row" (topS 11) f fd) {f1 : Addr} {d1 : FuncData} (G_numbers_text : Cal P w K mg base 1 "numbers_text" ["numbers"] (spNumbersText K) f1 d1) :
    FnOk P w K mg base (L2.CX P w) 2 f fd ["row"] (spPrintRow K) := by
  refine F.okX sc_print_row (fun vs H Q E h => ?_) (fun cdv A outer s H vs Q E hr h => ?_)
  · obtain ⟨v, r, rfl, _⟩ := h
    rfl
  · obtain ⟨v, r, rfl, hv, hw, q⟩ := h
    refine ⟨_, (pss_cons (ps_if (pt_cmpR opEq (pe_ix (ixK K rfl) (pv 0) pe_int (fun _ _ => rfl)) pe_str (nomark _)) (pss_one (ps_ret (pe_joined (.cons pe_str (.cons (pe_fmt (pe_ix (ixK K rfl) (pv 0) pe_int (fun _ _ => rfl))) (.cons pe_str (.cons (pe_fmt (pe_ix (ixK K rfl) (pv 0) pe_int (fun _ _ => rfl))) .nil))))))) pss_nil)
  (pss_cons (ps_if (pt_cmpR opEq (pe_ix (ixK K rfl) (pv 0) pe_int (fun _ _ => rfl)) pe_str (nomark _)) (pss_one (ps_ret (pe_op (opAddK K rfl) pe_str (pe_joinK K rfl pe_str (pe_lc (own := [("walk", 1)]) (g := (gName 1)) rfl sc_print_row.nd (pi_anyK K rfl (pe_ix (ixK K rfl) (pv 0) pe_int (fun _ _ => rfl))) (blkOk_by (N := ["row", "walk"]) (sc := defScope (topS 11)) (by decide +kernel)) (fun _ _ _ _ _ => (pg_name (i := 1) sc_print_row.nd rfl (by first | exact Or.inl rfl | exact Or.inr rfl))) (fun _ _ _ _ _ => pts_nil) (fun _ _ _ _ _ => (pe_call G_numbers_text.ok (hr.mono (by first | decide | exact Nat.le_refl _)) rfl G_numbers_text.mg G_numbers_text.kp G_numbers_text.bi .nil passL (pa_cons (pv 1) pa_nil)))))))) pss_nil)
  (pss_one (ps_ret (pe_joined (.cons (pe_fmt (pe_ix (ixK K rfl) (pv 0) pe_int (fun _ _ => rfl))) (.cons pe_str (.cons (pe_fmt (pe_call G_numbers_text.ok (hr.mono (by first | decide | exact Nat.le_refl _)) rfl G_numbers_text.mg G_numbers_text.kp G_numbers_text.bi .nil passL (pa_cons (pe_ix (ixK K rfl) (pv 0) pe_int (fun _ _ => rfl)) pa_nil))) .nil)))))))), ?_⟩
    obtain ⟨p, rest, rfl, hp⟩ := row_head hv
    have h0 : Val (tOp (rIx K) (tVar 0) (tC (.int 0))) [some (V.ref p), none] H (.str r.kind) := vx_t (val_var rfl) val_c hp (atI_nat (j := 0) rfl)
    refine st_if (r.kind = "split") ((a_t (v_eqS h0 val_c)).dec (by rw [decide_eq_true_eq])) (fun h => ?_) (fun h => ?_)
    · cases r with
      | split a b =>
        obtain ⟨_, e, hp⟩ := hv
        cases e
        have h1 : Val (tOp (rIx K) (tVar 0) (tC (.int 1))) [some (V.ref p), none] H (.int a) := vx_t (val_var rfl) val_c hp (atI_nat (j := 1) rfl)
        have h2 : Val (tOp (rIx K) (tVar 0) (tC (.int 2))) [some (V.ref p), none] H (.int b) := vx_t (val_var rfl) val_c hp (atI_nat (j := 2) rfl)
        have l1 := fld_len hw.1
        have l2 := fld_len hw.2
        have e1 : (Str.ofString "split ").length = 6 := by decide +kernel
        have e2 : (Str.ofString " ").length = 1 := by decide +kernel
        refine js_lit (by rw [e1]; decide) (js_int h1 hw.1 ?_ (js_lit ?_ (js_int h2 hw.2 ?_ ?_))) <;> rw [empty_app]
        · omega
        · rw [app_len]; omega
        · rw [app_len, app_len]; omega
        · exact q H (Same.refl _)
      | across ws => exact absurd (show kAcross = "split" from h) (by decide +kernel)
      | down ws => exact absurd (show kDown = "split" from h) (by decide +kernel)
      | pages ws => exact absurd (show kPages = "split" from h) (by decide +kernel)
    · refine un_next ?_
      dsimp only
      refine st_if (r.kind = "pages") ((a_t (v_eqS h0 val_c)).dec (by rw [decide_eq_true_eq])) (fun h => ?_) (fun h => ?_)
      · cases r with
        | split a b => exact absurd (show kSplit = "pages" from h) (by decide +kernel)
        | across ws => exact absurd (show kAcross = "pages" from h) (by decide +kernel)
        | down ws => exact absurd (show kDown = "pages" from h) (by decide +kernel)
        | pages wss =>
          obtain ⟨_, qv, e, hp, pq, qs, rfl, hq, ha⟩ := hv
          cases e
          have h1 : Val (tOp (rIx K) (tVar 0) (tC (.int 1))) [some (V.ref p), none] H (.ref pq) := vx_t (val_var rfl) val_c hp (atI_nat (j := 1) rfl)
          have hwl : wss.length ≤ 10 := hw.2.1
          refine un_ret (un_op (val_c _ (un_m1 val_c ?_)))
          refine lc_seq (K := K) (xs := qs) h1 (.inr hq) (fun i y _ => ∃ n, wss[i]? = some n ∧ y = .str (numbersText n)) (fun _ _ _ _ _ h => h) (by rw [ha.1]; omega) ?_ ?_
          · intro j x H' hx s
            obtain ⟨ws, ew, hws⟩ := ha.getV hx
            have hw1 := hw.2.2 ws (List.mem_of_getElem? ew)
            exact ⟨rfl, fun Qy qy => ⟨x, rfl, x, ws, rfl, hws.mono (tsm_same s), hw1.2.2, by have := hw1.2.1; omega, fun H4 s4 => qy _ _ s4 ⟨ws, ew, rfl⟩⟩⟩
          · intro D ys H' hD s hy hly hr
            obtain ⟨j1, j2⟩ := join_texts (K := K) (g := numbersText) (sep := " / ") (B := 600) (by decide) (by decide +kernel) (fun ws hws => ntw_len (hw.2.2 ws hws)) (by omega) hy (by rw [hly, ha.1]) hr
            refine ⟨_, D, _, rfl, rfl, .inl j1, j2, ?_⟩
            refine .inr (.inl ⟨_, _, rfl, rfl, ?_, q H' s⟩)
            have h1 := join_len (sep := " / ") (l := wss.map numbersText) (B := 600) fun z hz => by
              obtain ⟨n, hn, rfl⟩ := List.mem_map.mp hz
              exact ntw_len (hw.2.2 n hn)
            rw [List.length_map] at h1
            have h3 : (Str.ofString "pages ").length = 6 := by decide +kernel
            have h4 : (Str.ofString " / ").length = 3 := by decide +kernel
            rw [h4] at h1
            exact sz_le (by omega)
      · refine un_next ?_
        dsimp only
        obtain ⟨k, qv, ws, hp, hq, hws, hk, e⟩ : ∃ (k : Str) (qv : V) (ws : List Int), SqT K H p [.str k, qv] ∧ NumsV K H qv ws ∧ wfW ws ∧ k.length ≤ 10 ∧ (k ++ SP ++ numbersText ws = printRow r) := by
          cases r with
          | split a b => exact absurd rfl ‹_›
          | pages a => exact absurd rfl h
          | across ws =>
            obtain ⟨_, qv, e, hp, hq⟩ := hv
            cases e
            exact ⟨_, _, ws, hp, hq, hw, by decide +kernel, rfl⟩
          | down ws =>
            obtain ⟨_, qv, e, hp, hq⟩ := hv
            cases e
            exact ⟨_, _, ws, hp, hq, hw, by decide +kernel, rfl⟩
        have h0 : Val (tOp (rIx K) (tVar 0) (tC (.int 0))) [some (V.ref p), none] H (.str k) := vx_t (val_var rfl) val_c hp (atI_nat (j := 0) rfl)
        have h1 : Val (tOp (rIx K) (tVar 0) (tC (.int 1))) [some (V.ref p), none] H qv := vx_t (val_var rfl) val_c hp (atI_nat (j := 1) rfl)
        have ln := ntw_len hws
        have e2 : (Str.ofString " ").length = 1 := by decide +kernel
        have e0 : Str.empty.length = 0 := rfl
        refine js_str h0 (by rw [e0]; omega) (js_lit ?_ ?_)
        · rw [empty_app]
          omega
        · rw [empty_app]
          refine h1 _ ⟨qv, ws, rfl, hq, hws.2.2, by have := hws.2.1; omega, fun H4 s4 => .inl ⟨_, rfl, sz_le (by omega), _, rfl, ?_, ?_⟩⟩
          · rw [app_len, app_len]
            exact sz_le (by omega)
          · have := q H4 s4
            rw [← e] at this
            exact this
/-! ### -/
def spPrintPaper (K : PySem.W.Frag) : Sp := fun vs H Q _ => ∃ (p : Addr) (us : List V) (rs : List Row), vs = [.ref p] ∧ (SqL K H p us ∨ SqT K H p us) ∧ All2 (RowV K H) us rs ∧ (∀ r ∈ rs, r.wf) ∧ rs.length ≤ 1000 ∧
  ∀ D H', Same H H' → H D = none → H' D = some (.lst ((rs.map printRow).map V.str)) → Q (.ref D) H'
theorem sc_print_paper : FnScope ["rows", "row"] ["rows"] (defScope (topS 13)) := ⟨rfl, rfl, rfl, by decide +kernel, rfl, by decide +kernel, by decide +kernel⟩
theorem ok_print_paper {f : Addr} {fd : FuncData} (F : Fun K "print_paper" "print_paper" (topS 13) f fd) {f1 : Addr} {d1 : FuncData} (G_print_row : Cal P w K mg base 2 "print_row" ["row"] (spPrintRow K) f1 d1) :
    FnOk P w K mg base (L2.CX P w) 3 f fd ["rows"] (spPrintPaper K) := by
  refine F.okX sc_print_paper (fun vs H Q E h => ?_) (fun cdv A outer s H vs Q E hr h => ?_)
  · obtain ⟨p, us, rs, rfl, _⟩ := h
    rfl
  · obtain ⟨p, us, rs, rfl, hp, ha, hw, hn, q⟩ := h
    refine ⟨_, (pss_one (ps_ret (pe_lc (own := [("row", 1)]) (g := (gName 1)) rfl sc_print_paper.nd (pi_anyK K rfl (pv 0)) (blkOk_by (N := ["rows", "row"]) (sc := defScope (topS 13)) (by decide +kernel)) (fun _ _ _ _ _ => (pg_name (i := 1) sc_print_paper.nd rfl (by first | exact Or.inl rfl | exact Or.inr rfl))) (fun _ _ _ _ _ => pts_nil) (fun _ _ _ _ _ => (pe_call G_print_row.ok (hr.mono (by first | decide | exact Nat.le_refl _)) rfl G_print_row.mg G_print_row.kp G_print_row.bi .nil passL (pa_cons (pv 1) pa_nil)))))), ?_⟩
    refine un_ret ?_
    refine lc_seq (K := K) (xs := us) (val_var rfl) hp (fun i y _ => ∃ r, rs[i]? = some r ∧ y = .str (printRow r)) (fun _ _ _ _ _ h => h) (by rw [ha.1]; omega) ?_ ?_
    · intro j x H' hx s
      obtain ⟨r, er, hr⟩ := ha.getV hx
      exact ⟨rfl, fun Qy qy => ⟨x, rfl, x, r, rfl, hr.mono (tsm_same s), hw r (List.mem_of_getElem? er), fun H4 s4 => qy _ _ s4 ⟨r, er, rfl⟩⟩⟩
    · intro D ys H' hD s hy hly hr
      refine q D H' s hD ?_
      rw [hy, List.map_map, map_by_place (f := V.str ∘ printRow) (by rw [hly, ha.1]) hr]
end
end K54

namespace K54
open PySem PySem.Spec PyProof.Rows TL L2 L3
/-! ### groups between slashes -/
theorem groupStep_sl (gs : List (List Str)) (g : List Str) : groupStep (gs ++ [g]) SL = gs ++ [g] ++ [[]] := by
  unfold groupStep
  rw [if_pos rfl]
theorem groupStep_ne {z : Str} (h : z ≠ SL) (gs : List (List Str)) (g : List Str) : groupStep (gs ++ [g]) z = gs ++ [g ++ [z]] := by
  unfold groupStep
  rw [if_neg h, List.dropLast_concat, List.getLast?_concat]
  rfl
theorem groups_take (zs : List Str) {i : Nat} {z : Str} (h : zs[i]? = some z) : groups (zs.take (i + 1)) = groupStep (groups (zs.take i)) z := by
  unfold groups
  rw [List.take_add_one, h, Option.toList_some, List.foldl_append]
  rfl
def GB (n : Nat) (zs : List Str) (G : List (List Str)) : Prop := G.length ≤ n + 1 ∧ ∀ g ∈ G, g.length ≤ n ∧ ∀ z ∈ g, z ∈ zs
theorem gb_take (zs : List Str) : ∀ i, i ≤ zs.length → GB i zs (groups (zs.take i)) ∧ groups (zs.take i) ≠ []
  | 0, _ => by
    rw [List.take_zero]
    refine ⟨⟨by decide, fun g hg => ?_⟩, by decide⟩
    have : g = [] := by simpa [groups] using hg
    subst this
    exact ⟨Nat.le_refl _, fun z hz => by simp at hz⟩
  | i + 1, h => by
    obtain ⟨⟨h1, h2⟩, hne⟩ := gb_take zs i (by omega)
    have hz : zs[i]? = some zs[i] := List.getElem?_eq_getElem (by omega)
    rw [groups_take zs hz]
    obtain ⟨gs, g, eg⟩ : ∃ gs g, groups (zs.take i) = gs ++ [g] := ⟨_, _, (List.dropLast_concat_getLast hne).symm⟩
    rw [eg] at h1 h2 ⊢
    rw [List.length_append, List.length_singleton] at h1
    by_cases e : zs[i] = SL
    · rw [e, groupStep_sl]
      refine ⟨⟨by simp; omega, fun x hx => ?_⟩, by simp⟩
      rcases List.mem_append.mp hx with hx | hx
      · obtain ⟨a, b⟩ := h2 x hx
        exact ⟨by omega, b⟩
      · have : x = [] := by simpa using hx
        subst this
        exact ⟨by simp, fun z hz => by simp at hz⟩
    · rw [groupStep_ne e]
      refine ⟨⟨by simp; omega, fun x hx => ?_⟩, by simp⟩
      rcases List.mem_append.mp hx with hx | hx
      · obtain ⟨a, b⟩ := h2 x (List.mem_append_left _ hx)
        exact ⟨by omega, b⟩
      · have e2 : x = g ++ [zs[i]] := by simpa using hx
        subst e2
        obtain ⟨a, b⟩ := h2 g (by simp)
        refine ⟨by simp; omega, fun z hz => ?_⟩
        rcases List.mem_append.mp hz with hz | hz
        · exact b z hz
        · have : z = zs[i] := by simpa using hz
          rw [this]
          exact List.mem_of_getElem? (List.getElem?_eq_getElem (by omega))
theorem groups_bd (zs : List Str) : GB zs.length zs (groups zs) := by
  have := (gb_take zs zs.length (Nat.le_refl _)).1
  rw [List.take_length] at this
  exact this
/-- the lists as they stand -/
def GI (H0 : Hp) (a : Addr) (H : Hp) (G : List (List Str)) : Prop := ∃ (gs : List (List Str)) (g : List Str) (qs : List V) (p : Addr), G = gs ++ [g] ∧ H a = some (.lst (qs ++ [.ref p])) ∧ H p = some (.lst (g.map V.str)) ∧ p ≠ a ∧ H0 p = none ∧
  All2 (fun v g => ∃ q, v = .ref q ∧ q ≠ p ∧ q ≠ a ∧ H q = some (.lst (g.map V.str))) qs gs
theorem GI.all {K : PySem.W.Frag} {H0 : Hp} {a : Addr} {H : Hp} {G : List (List Str)} (h : GI H0 a H G) : ∃ qs, H a = some (.lst qs) ∧ All2 (fun v g => ∃ q, v = .ref q ∧ SqL K H q (g.map V.str)) qs G := by
  obtain ⟨gs, g, qs, p, rfl, ha, hp, _, _, hq⟩ := h
  refine ⟨_, ha, All2.app (hq.mono ?_) (All2.one ⟨p, rfl, .inl (.inl hp)⟩)⟩
  rintro v g ⟨q, e, _, _, h⟩
  exact ⟨q, e, .inl (.inl h)⟩
theorem gi_start {H : Hp} {a p : Addr} (h : H p = none) (ha : (upd H p (.lst [])) a = none) : GI H a (upd (upd H p (.lst [])) a (.lst [.ref p])) [[]] ∧ Same H (upd (upd H p (.lst [])) a (.lst [.ref p])) := by
  have hne : p ≠ a := fun e => by
    rw [e, upd_same] at ha
    cases ha
  have hfa : H a = none := by rw [upd_ne hne.symm] at ha; exact ha
  refine ⟨⟨[], [], [], p, rfl, upd_same, ?_, hne, h, All2.nil⟩, (same_new h).trans (same_new ha)⟩
  rw [upd_ne hne, upd_same]
  rfl
section
variable {K : PySem.W.Frag}
abbrev bodyG (K : PySem.W.Frag) (iW iF : Nat) : TS := tIfS (tTest (tOp rEq (tVar iF) (tC (.str "/")))) (tDrop (tBM K "list" rAppend (tVar iW) (tCons (tLst tNil) tNil)))
  (tDrop (tBM K "list" rAppend (tOp (rIx K) (tVar iW) (tUn (rU fun i => .int (-i)) (tC (.int 1)))) (tCons (tVar iF) tNil)))
theorem group_core {iW iF : Nat} {σ : L2.St} {H H0 : Hp} {D : Ends} {l a : Addr} {zs : List Str} (hne : iW ≠ iF) (hF : iF < σ.length) (hx0 : SqL K H0 l (zs.map V.str)) (hz : zs.length ≤ 200000) (hW : σ[iW]? = some (some (.ref a))) (h0 : σ = σ.set iF none)
    (ha : H0 a = none) (s0 : Same H0 H) (g0 : GI H0 a H [[]]) (fin : ∀ y H', Same H0 H' → GI H0 a H' (groups zs) → D.nx (σ.set iF y) H') : tFor (fun _ H R => R (Itl K l) H) (gName iF) (bodyG K iW iF) D σ H := by
  refine for_it walk_list (fun i σ' H' => (∃ y, σ' = σ.set iF y) ∧ Same H0 H' ∧ GI H0 a H' (groups (zs.take i))) ⟨⟨none, h0⟩, s0, by rw [List.take_zero]; exact g0⟩ (fun i σ' H' _ q => same_l q.2.1 hx0) ?_ ?_
  · rintro i x σ' H' H2 hi ⟨⟨y, rfl⟩, s, g⟩ ⟨rfl, ex⟩
    rw [List.length_map] at hi
    rw [List.getElem?_map] at ex
    obtain ⟨z, ez, rfl⟩ := Option.map_eq_some_iff.mp ex
    have bd := (gb_take zs i (by omega)).1
    obtain ⟨gs, g, qs, p, eG, ea, ep, pa, p0, hq⟩ := g
    rw [eG] at bd
    have e1 : (σ.set iF y).set iF (some (.str z)) = σ.set iF (some (.str z)) := List.set_set ..
    show (bodyG K iW iF) _ ((σ.set iF y).set iF (some (.str z))) _
    rw [e1]
    have vF : ∀ {H : Hp}, Val (tVar iF) (σ.set iF (some (.str z))) H (.str z) := val_var (by rw [List.getElem?_set_self hF])
    have vW : ∀ {H : Hp}, Val (tVar iW) (σ.set iF (some (.str z))) H (.ref a) := val_var (by rw [List.getElem?_set_ne (fun e => hne e.symm)]; exact hW)
    refine st_if (z = "/") ((a_t (v_eqS vF val_c)).dec (by rw [decide_eq_true_eq])) (fun h => ?_) (fun h => ?_)
    · refine un_app vW (.inl ⟨rfl, _, .inl (.inl ea)⟩) ⟨Nat.zero_le _, fun p' hp' => ?_⟩
      have hpa : a ≠ p' := ne_of_none ea hp'
      have hpp : p ≠ p' := ne_of_none ep hp'
      refine ⟨a, _, _, rfl, rfl, by rw [upd_ne hpa]; exact ea, ?_, ?_⟩
      · have := bd.1
        have e := hq.1
        simp only [List.length_append, List.length_singleton] at this ⊢
        exact sz_lt (by omega)
      · refine ⟨⟨_, rfl⟩, same_mut (s.trans (same_new hp')) ha, ?_⟩
        rw [groups_take zs ez, eG, show z = SL from h, groupStep_sl]
        refine ⟨gs ++ [g], [], qs ++ [.ref p], p', rfl, upd_same, ?_, hpa.symm, s.free hp', ?_⟩
        · rw [upd_ne hpa.symm, upd_same]
          rfl
        · have k : ∀ {q : Addr} {o : HO}, q ≠ a → H2 q = some o → upd (upd H2 p' (.lst [])) a (.lst (qs ++ [.ref p] ++ [.ref p'])) q = some o := fun {q o} n e => by
            rw [upd_ne n, upd_ne (ne_of_none e hp')]
            exact e
          refine (hq.mono ?_).app (All2.one ⟨p, rfl, hpp, pa, k pa ep⟩)
          rintro v g ⟨q, e, n1, n2, e2⟩
          exact ⟨q, e, ne_of_none e2 hp', n2, k n2 e2⟩
    · have vL : ∀ {H' : Hp}, H' a = some (.lst (qs ++ [.ref p])) → Val (tOp (rIx K) (tVar iW) (tUn (rU fun i => .int (-i)) (tC (.int 1)))) (σ.set iF (some (.str z))) H' (.ref p) := fun {H'} ea => vx_l vW (i := -1) (fun Q q => ⟨1, rfl, q⟩) (.inl (.inl ea)) (atI_last qs _)
      refine un_app (vL ea) (.inl ⟨rfl, _, .inl (.inl ep)⟩) (vF _ ⟨p, _, _, rfl, rfl, ep, ?_, ?_⟩)
      · have := (bd.2 g (by simp)).1
        rw [List.length_map]
        exact sz_lt (by omega)
      · refine ⟨⟨_, rfl⟩, same_mut s p0, ?_⟩
        rw [groups_take zs ez, eG, groupStep_ne h]
        refine ⟨gs, g ++ [z], qs, p, rfl, by rw [upd_ne pa.symm]; exact ea, by rw [upd_same, List.map_append]; rfl, pa, p0, hq.mono ?_⟩
        rintro v g ⟨q, e, n1, n2, e2⟩
        exact ⟨q, e, n1, n2, by rw [upd_ne n1]; exact e2⟩
  · rintro σ' H' ⟨⟨y, rfl⟩, s, g⟩
    rw [List.length_map, List.take_length] at g
    exact fin y H' s g
end
theorem allSome_none {α : Type} : ∀ {l : List (Option α)}, none ∈ l → allSome l = none
  | none :: _, _ => rfl
  | some a :: r, h => by
    have : none ∈ r := by simpa using h
    show (allSome r).map _ = _
    rw [allSome_none this]
    rfl
theorem allSome_all {β α : Type} {f : β → Option α} : ∀ {l : List β}, (∀ b ∈ l, f b ≠ none) → ∃ as : List α, allSome (l.map f) = some as ∧ as.length = l.length ∧ ∀ (i : Nat) (b : β), l[i]? = some b → ∃ a, as[i]? = some a ∧ f b = some a
  | [], _ => ⟨[], rfl, rfl, fun i b h => by simp at h⟩
  | b :: l, h => by
    obtain ⟨as, e1, e2, e3⟩ := allSome_all (l := l) fun x hx => h x (List.mem_cons_of_mem _ hx)
    cases e : f b with
    | none => exact absurd e (h b (by simp))
    | some a =>
      refine ⟨a :: as, ?_, by simp [e2], fun i x hx => ?_⟩
      · show allSome (f b :: l.map f) = _
        rw [e]
        show (allSome (l.map f)).map _ = _
        rw [e1]
        rfl
      · cases i with
        | zero =>
          cases Option.some.inj hx
          exact ⟨a, rfl, e⟩
        | succ n => exact e3 n x (by simpa using hx)
section
variable {P : Program} {w : World} {K : PySem.W.Frag} {mg : Str → Option Value} {base : Heap} {C fI : Addr} {dI : FuncData}
def spReadWalks (K : PySem.W.Frag) (C : Addr) : Sp := fun vs H Q E => ∃ (p : Addr) (zs : List Str) (i : Int), vs = [.ref p, .int i] ∧ SqL K H p (zs.map V.str) ∧ (∀ z ∈ zs, z.length ≤ 100000) ∧ zs.length ≤ 200000 ∧ okL i ∧
  (∀ wss, readWalks zs = some wss → ∀ v H', Same H H' → WalksV K H' v wss → Q v H') ∧ (readWalks zs = none → Raises1 C "line" i H E)
theorem sc_read_walks : FnScope ["fields", "at", "walks", "field", "walk"] ["fields", "at"] (defScope (topS 10)) := ⟨rfl, rfl, rfl, by decide +kernel, rfl, by decide +kernel, by decide +kernel⟩
theorem ok_read_walks {f : Addr} {fd : FuncData} (F : Fun K "read_walks" "read_walks" (topS 10) f fd) (T : Txt mg) {f1 : Addr} {d1 : FuncData} (G_read_numbers : Cal P w K mg base 4 "read_numbers" ["fields", "at"] (spReadNumbers K C) f1 d1) :
    FnOk P w K mg base (L2.CX P w) 5 f fd ["fields", "at"] (spReadWalks K C) := by
  refine F.okX sc_read_walks (fun vs H Q E h => ?_) (fun cdv A outer s H vs Q E hr h => ?_)
  · obtain ⟨p, zs, i, rfl, _⟩ := h
    rfl
  · obtain ⟨p, zs, i, rfl, hp, hz, hl, hi, q1, q2⟩ := h
    refine ⟨_, (pss_cons (ps_set (i := 2) sc_read_walks.nd rfl (by first | exact Or.inl rfl | exact Or.inr rfl) (pe_lst (pa_cons (pe_lst pa_nil) pa_nil)))
  (pss_cons (ps_for (passes_of rfl) rfl (pi_anyK K rfl (pv 0)) (pg_name (i := 3) sc_read_walks.nd rfl (by first | exact Or.inl rfl | exact Or.inr rfl))
   (pss_one (ps_if (pt_cmpR opEq (pv 3) pe_str (nomark _)) (pss_one (ps_expr (pe_appendK K rfl (pv 2) (pa_cons (pe_lst pa_nil) pa_nil)))) (pss_one (ps_expr (pe_appendK K rfl (pe_ix (ixK K rfl) (pv 2) (pe_un un_neg pe_int) (fun _ _ => rfl)) (pa_cons (pv 3) pa_nil)))))))
  (pss_one (ps_ret (pe_callTy (call_tupleK K rfl) (by rfl) T.z_tuple (by decide +kernel) (pa_cons (pe_lcX (own := [("walk", 4)]) (g := (gName 4)) rfl sc_read_walks.nd rfl rfl (takes_of rfl rfl rfl rfl) (pi_anyK K rfl (pv 2)) (blkOk_by (N := ["fields", "at", "walks", "field", "walk"]) (sc := defScope (topS 10)) (by decide +kernel)) (fun _ _ _ _ _ _ => (pg_name (i := 4) sc_read_walks.nd rfl (by first | exact Or.inl rfl | exact Or.inr rfl))) (fun _ _ _ _ _ _ => pts_nil) (fun _ _ _ _ _ _ _ pas => (pe_callS G_read_numbers.ok (hr.mono (by first | decide | exact Nat.le_refl _)) rfl G_read_numbers.mg G_read_numbers.kp G_read_numbers.bi pas (pa_cons (pv 4) (pa_cons (pv 1) pa_nil))))) pa_nil)))))), ?_⟩
    refine ⟨Nat.zero_le _, fun p1 hp1 => ⟨by show 1 ≤ sizeLine; decide, fun a ha => ?_⟩⟩
    obtain ⟨g0, s0⟩ := gi_start hp1 ha
    have hfa : H a = none := (same_new hp1).free ha
    refine .inl (val_var (v := .ref p) rfl _ ⟨p, rfl, ⟨_, same_l s0 hp⟩, group_core (iW := 2) (iF := 3) (H0 := H) (l := p) (zs := zs) (by decide) (by show 3 < 5; decide) hp hl rfl rfl hfa s0 g0 fun y H' s g => ?_⟩)
    dsimp only
    refine un_ret (un_cb1 (un_lcX ?_))
    obtain ⟨qs, ea, hq⟩ := g.all (K := K)
    have bd := groups_bd zs
    refine lc_seq (K := K) (xs := qs) (p := a) (val_var rfl) (.inl (.inl (.inl ea))) (fun i y H => ∃ g ns, (groups zs)[i]? = some g ∧ readNumbers g = some ns ∧ NumsV K H y ns) (fun _ _ _ _ t ⟨g, ns, e1, e2, h⟩ => ⟨g, ns, e1, e2, h.mono t⟩) (by rw [hq.1]; have := bd.1; omega) ?_ ?_
    · intro j x H2 hx s2
      obtain ⟨g, eg, q, rfl, hs⟩ := hq.getV hx
      have bg := bd.2 g (List.mem_of_getElem? eg)
      refine ⟨rfl, fun Qy qy => ⟨_, rfl, .int i, rfl, q, g, i, rfl, same_l s2 hs, fun z h => hz z (bg.2 z h), by omega, hi, fun ns en v H4 s4 hn => qy v H4 s4 ⟨g, ns, eg, en, hn⟩, fun en => ?_⟩⟩
      refine (q2 ?_).back (s.trans s2)
      exact allSome_none (List.mem_map.mpr ⟨g, List.mem_of_getElem? eg, en⟩)
    · intro D ys H2 hD s2 hy hly hr
      have hall : ∀ g ∈ groups zs, readNumbers g ≠ none := by
        intro g hg
        obtain ⟨j, hj⟩ := List.mem_iff_getElem?.mp hg
        have hlt : j < ys.length := by
          rw [hly, hq.1]
          exact (List.getElem?_eq_some_iff.mp hj).1
        obtain ⟨g', ns, e1, e2, _⟩ := hr j _ (List.getElem?_eq_getElem hlt)
        rw [hj] at e1
        cases Option.some.inj e1
        rw [e2]
        exact fun z => nomatch z
      obtain ⟨wss, e1, e2, e3⟩ := allSome_all hall
      refine ⟨D, ys, rfl, .inl ⟨.inl (.inl hy), fun l hl2 => ?_⟩⟩
      have t2 : TSm K H2 (upd H2 l (.tup ys)) := tsm_same (same_new hl2)
      refine q1 wss e1 _ _ ((s.trans s2).trans (same_new hl2)) ⟨l, ys, rfl, sqt_new, by rw [hly, hq.1, e2], fun j v ws hv hw => ?_⟩
      obtain ⟨g, ns, e4, e5, hn⟩ := hr j v hv
      obtain ⟨ns', e6, e7⟩ := e3 j g e4
      rw [hw] at e6
      cases Option.some.inj e6
      rw [e5] at e7
      cases Option.some.inj e7
      exact hn.mono t2
end
end K54

namespace K54
open PySem PySem.Spec PyProof.Rows TL L2 L3
section
variable {P : Program} {w : World} {K : PySem.W.Frag} {mg : Str → Option Value} {base : Heap} {C fI : Addr} {dI : FuncData}
def spReadRow (K : PySem.W.Frag) (C : Addr) : Sp := fun vs H Q E => ∃ (z : Str) (i : Int), vs = [.str z, .int i] ∧ z.length ≤ 100000 ∧ okL i ∧
  (∀ r, parseRow z = some r → ∀ v H', Same H H' → RowV K H' v r → Q v H') ∧ (parseRow z = none → Raises1 C "line" i H E)
theorem sc_read_row : FnScope ["line", "at", "fields"] ["line", "at"] (defScope (topS 12)) := ⟨rfl, rfl, rfl, by decide +kernel, rfl, by decide +kernel, by decide +kernel⟩
theorem readNumbers_two {x y : Str} : readNumbers [x, y] = if isNumber x && isNumber y then some [numOf x, numOf y] else none := by
  unfold readNumbers
  rw [if_neg (by simp)]
  simp [List.all_cons]
theorem fields_ne (z : Str) : fieldsOf z ≠ [] := by
  intro e
  have h : (fieldsOf z).map tl = spl (tl SP) 0 [] (tl z) := split_spl z SP (by decide +kernel) (by
    have h1 : Builtin.Str.strKind SP = 1 := by decide +kernel
    rw [h1]
    unfold Builtin.Str.strKind
    split <;> first | omega | (split <;> omega))
  rw [e] at h
  have : ∀ (S : List Nat) (l acc : List Nat) (k : Nat), spl S k acc l ≠ [] := by
    intro S l
    induction l with
    | nil => intro acc k; cases k <;> simp [spl]
    | cons c r ih =>
      intro acc k
      cases k with
      | zero =>
        unfold spl
        split
        · simp
        · exact ih _ _
      | succ k => exact ih _ _
  exact this _ _ _ _ h.symm
theorem ok_read_row {f : Addr} {fd : FuncData} (F : Fun K "read_row" "read_row" (topS 12) f fd) (T : Txt mg) (B : BadM P w K mg base C fI dI) {f1 f2 f3 : Addr} {d1 d2 d3 : FuncData} (G_read_number : Cal P w K mg base 3 "read_number" ["field", "at"] (spReadNumber C) f1 d1) (G_read_numbers : Cal P w K mg base 4 "read_numbers" ["fields", "at"] (spReadNumbers K C) f2 d2)
    (G_read_walks : Cal P w K mg base 5 "read_walks" ["fields", "at"] (spReadWalks K C) f3 d3) :
    FnOk P w K mg base (L2.CX P w) 6 f fd ["line", "at"] (spReadRow K C) := by
  refine F.okX sc_read_row (fun vs H Q E h => ?_) (fun cdv A outer s H vs Q E hr h => ?_)
  · obtain ⟨z, i, rfl, _⟩ := h
    rfl
  · obtain ⟨z, i, rfl, hz, hi, q1, q2⟩ := h
    refine ⟨_, (pss_cons (ps_set (i := 2) sc_read_row.nd rfl (by first | exact Or.inl rfl | exact Or.inr rfl) (pe_split (pv 0) pe_str))
  (pss_cons (ps_if (PW.pt (pw_and (pt_cmpR opEq (pe_ix (ixK K rfl) (pv 2) pe_int (fun _ _ => rfl)) pe_str (nomark _)) (pw_and1 (pt_cmpR opEq (pe_callB (call_lenK K rfl) (by rfl) T.z_len PySem.boot_len (pa_cons (pv 2) pa_nil)) pe_int (nomark _))))) (pss_one (ps_ret (pe_tup (pa_str (pa_cons (pe_callS G_read_number.ok (hr.mono (by first | decide | exact Nat.le_refl _)) rfl G_read_number.mg G_read_number.kp G_read_number.bi (fun σ => passAt (takes_of rfl rfl rfl rfl) σ) (pa_cons (pe_ix (ixK K rfl) (pv 2) pe_int (fun _ _ => rfl)) (pa_cons (pv 1) pa_nil))) (pa_cons (pe_callS G_read_number.ok (hr.mono (by first | decide | exact Nat.le_refl _)) rfl G_read_number.mg G_read_number.kp G_read_number.bi (fun σ => passAt (takes_of rfl rfl rfl rfl) σ) (pa_cons (pe_ix (ixK K rfl) (pv 2) pe_int (fun _ _ => rfl)) (pa_cons (pv 1) pa_nil))) pa_nil)))))) pss_nil)
  (pss_cons (ps_if (PW.pt (pw_or (pt_cmpR opEq (pe_ix (ixK K rfl) (pv 2) pe_int (fun _ _ => rfl)) pe_str (nomark _)) (pw_or1 (pt_cmpR opEq (pe_ix (ixK K rfl) (pv 2) pe_int (fun _ _ => rfl)) pe_str (nomark _))))) (pss_one (ps_ret (pe_tup (pa_cons (pe_ix (ixK K rfl) (pv 2) pe_int (fun _ _ => rfl)) (pa_cons (pe_callS G_read_numbers.ok (hr.mono (by first | decide | exact Nat.le_refl _)) rfl G_read_numbers.mg G_read_numbers.kp G_read_numbers.bi (fun σ => passAt (takes_of rfl rfl rfl rfl) σ) (pa_cons (pe_slice (slAnyK K rfl) (pv 2) (po_some pe_int) po_none) (pa_cons (pv 1) pa_nil))) pa_nil))))) pss_nil)
  (pss_cons (ps_if (pt_cmpR opEq (pe_ix (ixK K rfl) (pv 2) pe_int (fun _ _ => rfl)) pe_str (nomark _)) (pss_one (ps_ret (pe_tup (pa_str (pa_cons (pe_callS G_read_walks.ok (hr.mono (by first | decide | exact Nat.le_refl _)) rfl G_read_walks.mg G_read_walks.kp G_read_walks.bi (fun σ => passAt (takes_of rfl rfl rfl rfl) σ) (pa_cons (pe_slice (slAnyK K rfl) (pv 2) (po_some pe_int) po_none) (pa_cons (pv 1) pa_nil))) pa_nil))))) pss_nil)
  (pss_one (ps_raise rfl (takes_of rfl rfl rfl rfl) (pmk_1 B.ox B.iC B.tI B.ok (hr.mono (by decide)) B.bi rfl B.mg (pa_cons (pv 1) pa_nil)))))))), ?_⟩
    refine un_set (un_m1 (val_var rfl) ⟨z, " ", rfl, rfl, by decide +kernel, sz_le (by omega), fun a ha => ?_⟩)
    have s0 : Same H (upd H a (.lst ((Txt.split z (Str.ofString " ")).map V.str))) := same_new ha
    have hL : SqL K (upd H a (.lst ((Txt.split z (Str.ofString " ")).map V.str))) a ((fieldsOf z).map V.str) := sql_new
    dsimp only
    generalize upd H a (.lst ((Txt.split z (Str.ofString " ")).map V.str)) = H1 at s0 hL ⊢
    obtain ⟨k, r, ef⟩ : ∃ k r, fieldsOf z = k :: r := by
      cases e : fieldsOf z with
      | nil => exact absurd e (fields_ne z)
      | cons k r => exact ⟨k, r, rfl⟩
    have hfl : ∀ x ∈ k :: r, x.length ≤ 100000 := fun x hx => Nat.le_trans (field_len (z := z) (by rw [ef]; exact hx)) hz
    have hfn := fields_len z
    rw [ef] at hL hfn
    rw [List.length_cons] at hfn
    have v2 : ∀ {H' : Hp}, Val (tVar 2) [some (V.str z), some (V.int i), some (V.ref a)] H' (.ref a) := val_var rfl
    have v1 : ∀ {H' : Hp}, Val (tVar 1) [some (V.str z), some (V.int i), some (V.ref a)] H' (.int i) := val_var rfl
    have x0 : Val (tOp (rIx K) (tVar 2) (tC (.int 0))) [some (V.str z), some (V.int i), some (V.ref a)] H1 (.str k) := vx_l v2 val_c hL (atI_nat (j := 0) rfl)
    have ln := vl_l (K := K) (v2 (H' := H1)) hL
    have ep : parseRow z = (match k :: r with
      | [] => none
      | k :: r =>
        if k = kSplit then (match r with
          | [a, b] => if isNumber a && isNumber b then some (.split (numOf a) (numOf b)) else none
          | _ => none)
        else if k = kAcross then (readNumbers r).map .across
        else if k = kDown then (readNumbers r).map .down
        else if k = kPages then (readWalks r).map .pages
        else none) := by
      unfold parseRow
      first
        | (rw [ef]; done)
        | (rw [ef]; rfl)
    refine st_if (k = "split" ∧ r.length = 2) ((a_and (a_t (v_eqS x0 val_c)) fun _ => a_t (v_eqI ln val_c)).dec ?_) (fun h => ?_) (fun h => ?_)
    · rw [Bool.and_eq_true, decide_eq_true_eq, decide_eq_true_eq, List.length_map, List.length_cons]
      constructor
      · rintro ⟨h1, h2⟩
        exact ⟨h1, by omega⟩
      · rintro ⟨h1, h2⟩
        exact ⟨h1, by omega⟩
    · obtain ⟨x, y, rfl⟩ : ∃ x y, r = [x, y] := by
        match r, h.2 with
        | [x, y], _ => exact ⟨x, y, rfl⟩
      have ep2 : parseRow z = if isNumber x && isNumber y then some (.split (numOf x) (numOf y)) else none := by
        rw [ep]
        show (if k = kSplit then _ else _) = _
        rw [if_pos (show k = kSplit from h.1)]
      have x1 : ∀ {H'}, Same H1 H' → Val (tOp (rIx K) (tVar 2) (tC (.int 1))) [some (V.str z), some (V.int i), some (V.ref a)] H' (.str x) := fun s => vx_l v2 val_c (same_l s hL) (atI_nat (j := 1) rfl)
      have x2 : ∀ {H'}, Same H1 H' → Val (tOp (rIx K) (tVar 2) (tC (.int 2))) [some (V.str z), some (V.int i), some (V.ref a)] H' (.str y) := fun s => vx_l v2 val_c (same_l s hL) (atI_nat (j := 2) rfl)
      refine x1 (Same.refl _) _ (v1 _ ⟨x, i, rfl, hfl x (by simp), hi, fun hx => ?_, fun hx => ?_⟩)
      · refine x2 (Same.refl _) _ (v1 _ ⟨y, i, rfl, hfl y (by simp), hi, fun hy => ?_, fun hy => ?_⟩)
        · refine ⟨by show 3 ≤ sizeLine; decide, fun p hp => ?_⟩
          refine q1 (.split (numOf x) (numOf y)) (by rw [ep2, hx, hy]; rfl) _ _ (s0.trans (same_new hp)) ⟨p, rfl, ?_⟩
          rw [show kSplit = k from h.1.symm ▸ rfl, h.1]
          exact sqt_new
        · exact (q2 (by rw [ep2, hy, Bool.and_false]; rfl)).back s0
      · exact (q2 (by rw [ep2, hx]; rfl)).back s0
    · refine un_next ?_
      dsimp only
      have nosplit : k = kSplit → parseRow z = none := fun e => by
        rw [ep]
        show (if k = kSplit then _ else _) = _
        rw [if_pos e]
        have : r.length ≠ 2 := fun e2 => h ⟨e, e2⟩
        match r with
        | [] => rfl
        | [_] => rfl
        | [_, _] => exact absurd rfl this
        | _ :: _ :: _ :: _ => rfl
      refine st_if (k = "across" ∨ k = "down") ((a_or (a_t (v_eqS x0 val_c)) fun _ => a_t (v_eqS x0 val_c)).dec ?_) (fun h2 => ?_) (fun h2 => ?_)
      · rw [Bool.or_eq_true, decide_eq_true_eq, decide_eq_true_eq]
      · have key : ∃ mk : List Int → Row, parseRow z = (readNumbers r).map mk ∧ ∀ {H' : Hp} {p : Addr} {v : V} {ns : List Int}, SqT K H' p [.str k, v] → NumsV K H' v ns → RowV K H' (.ref p) (mk ns) := by
          rcases h2 with rfl | rfl
          · refine ⟨.across, ?_, fun hp hn => ⟨_, _, rfl, hp, hn⟩⟩
            rw [ep]
            show (if kAcross = kSplit then _ else if kAcross = kAcross then _ else _) = _
            rw [if_neg (by decide +kernel), if_pos rfl]
          · refine ⟨.down, ?_, fun hp hn => ⟨_, _, rfl, hp, hn⟩⟩
            rw [ep]
            show (if kDown = kSplit then _ else if kDown = kAcross then _ else if kDown = kDown then _ else _) = _
            rw [if_neg (by decide +kernel), if_neg (by decide +kernel), if_pos rfl]
        obtain ⟨mk, em, hm⟩ := key
        refine x0 _ (sl_1 v2 hL fun p hp => v1 _ ⟨p, r, i, rfl, sql_new, fun x hx => hfl x (by simp [hx]), by omega, hi, fun ns en v H2 s2 hn => ?_, fun en => ?_⟩)
        · refine ⟨by show 2 ≤ sizeLine; decide, fun p2 hp2 => ?_⟩
          refine q1 (mk ns) (by rw [em, en]; rfl) _ _ (((s0.trans (same_new hp)).trans s2).trans (same_new hp2)) (hm sqt_new (hn.mono (tsm_same (same_new hp2))))
        · exact (q2 (by rw [em, en]; rfl)).back (s0.trans (same_new hp))
      · refine un_next ?_
        dsimp only
        refine st_if (k = "pages") ((a_t (v_eqS x0 val_c)).dec (by rw [decide_eq_true_eq])) (fun h3 => ?_) (fun h3 => ?_)
        · have em : parseRow z = (readWalks r).map .pages := by
            subst h3
            rw [ep]
            show (if kPages = kSplit then _ else if kPages = kAcross then _ else if kPages = kDown then _ else if kPages = kPages then _ else _) = _
            rw [if_neg (by decide +kernel), if_neg (by decide +kernel), if_neg (by decide +kernel), if_pos rfl]
          refine sl_1 v2 hL fun p hp => v1 _ ⟨p, r, i, rfl, sql_new, fun x hx => hfl x (by simp [hx]), by omega, hi, fun ns en v H2 s2 hn => ?_, fun en => ?_⟩
          · refine ⟨by show 2 ≤ sizeLine; decide, fun p2 hp2 => ?_⟩
            refine q1 (.pages ns) (by rw [em, en]; rfl) _ _ (((s0.trans (same_new hp)).trans s2).trans (same_new hp2)) ⟨_, _, rfl, sqt_new, hn.mono (tsm_same (same_new hp2))⟩
          · exact (q2 (by rw [em, en]; rfl)).back (s0.trans (same_new hp))
        · refine un_next ?_
          dsimp only
          refine v1 _ ⟨i, rfl, hi.1, hi.2, ?_⟩
          have : parseRow z = none := by
            by_cases e : k = kSplit
            · exact nosplit e
            · rw [ep]
              show (if k = kSplit then _ else if k = kAcross then _ else if k = kDown then _ else if k = kPages then _ else _) = _
              rw [if_neg e, if_neg (show ¬ k = kAcross from fun e => h2 (.inl e)), if_neg (show ¬ k = kDown from fun e => h2 (.inr e)), if_neg (show ¬ k = kPages from h3)]
          exact (q2 this).back s0
/-! ### -/
def spReadPaper (K : PySem.W.Frag) (C : Addr) : Sp := fun vs H Q E => ∃ (p : Addr) (lines : List Str), vs = [.ref p] ∧ (SqL K H p (lines.map V.str) ∨ SqT K H p (lines.map V.str)) ∧ (∀ z ∈ lines, z.length ≤ 100000) ∧ lines.length ≤ 100000 ∧
  (∀ rs, readPaper 1 lines = .inl rs → ∀ (q : Addr) us H', Same H H' → SqT K H' q us → All2 (RowV K H') us rs → Q (.ref q) H') ∧ (∀ n, readPaper 1 lines = .inr n → Raises1 C "line" (n : Nat) H E)
theorem sc_read_paper : FnScope ["lines", "at", "line"] ["lines"] (defScope (topS 14)) := ⟨rfl, rfl, rfl, by decide +kernel, rfl, by decide +kernel, by decide +kernel⟩
/-- the first j lines are rows, the j-th is none -/
theorem paper_at : ∀ {lines : List Str} {j k : Nat} {l : Str}, lines[j]? = some l → parseRow l = none → (∀ (i : Nat) (l' : Str), i < j → lines[i]? = some l' → parseRow l' ≠ none) → readPaper k lines = .inr (k + j) := fun h hb hp => paper_bad h hb hp
theorem paper_all : ∀ {lines : List Str} {k : Nat}, (∀ l ∈ lines, parseRow l ≠ none) → ∃ rs, readPaper k lines = .inl rs ∧ rs.length = lines.length ∧ ∀ (i : Nat) (l : Str), lines[i]? = some l → ∃ r, rs[i]? = some r ∧ parseRow l = some r
  | [], _, _ => ⟨[], rfl, rfl, fun i l h => by simp at h⟩
  | x :: lines, k, h => by
    obtain ⟨rs, e1, e2, e3⟩ := paper_all (lines := lines) (k := k + 1) fun l hl => h l (List.mem_cons_of_mem _ hl)
    cases e : parseRow x with
    | none => exact absurd e (h x (by simp))
    | some r =>
      refine ⟨r :: rs, ?_, by simp [e2], fun i l hl => ?_⟩
      · unfold readPaper
        rw [e, e1]
      · cases i with
        | zero =>
          cases Option.some.inj hl
          exact ⟨r, rfl, e⟩
        | succ n => exact e3 n l (by simpa using hl)
theorem ok_read_paper {f : Addr} {fd : FuncData} (F : Fun K "read_paper" "read_paper" (topS 14) f fd) (T : Txt mg) {f1 : Addr} {d1 : FuncData} (G_read_row : Cal P w K mg base 6 "read_row" ["line", "at"] (spReadRow K C) f1 d1) :
    FnOk P w K mg base (L2.CX P w) 7 f fd ["lines"] (spReadPaper K C) := by
  refine F.okX sc_read_paper (fun vs H Q E h => ?_) (fun cdv A outer s H vs Q E hr h => ?_)
  · obtain ⟨p, zs, rfl, _⟩ := h
    rfl
  · obtain ⟨p, lines, rfl, hp, hz, hl, q1, q2⟩ := h
    refine ⟨_, (pss_one (ps_ret (pe_callTy (call_tupleK K rfl) (by rfl) T.z_tuple (by decide +kernel) (pa_cons (pe_lcX (own := [("at", 1), ("line", 2)]) (g := (gTup K 2 (gCons (gName 1) (gCons (gName 2) gNil)))) rfl sc_read_paper.nd rfl rfl (takes_of rfl rfl rfl rfl) (pi_enumK (by rfl) T.z_enumerate (pa_cons (pv 0) pa_nil) (pk_cons pe_int pk_nil)) (blkOk_by (N := ["lines", "at", "line"]) (sc := defScope (topS 14)) (by decide +kernel)) (fun _ _ _ _ _ _ => (pg_tup (by rfl) (pgs_cons (pg_name (i := 1) sc_read_paper.nd rfl (by first | exact Or.inl rfl | exact Or.inr rfl)) (pgs_cons (pg_name (i := 2) sc_read_paper.nd rfl (by first | exact Or.inl rfl | exact Or.inr rfl)) pgs_nil)))) (fun _ _ _ _ _ _ => pts_nil) (fun _ _ _ _ _ _ _ pas => (pe_callS G_read_row.ok (hr.mono (by first | decide | exact Nat.le_refl _)) rfl G_read_row.mg G_read_row.kp G_read_row.bi pas (pa_cons (pv 2) (pa_cons (pv 1) pa_nil))))) pa_nil)))), ?_⟩
    refine un_ret (un_cb1 (un_lcX ?_))
    have R0 : ∀ (i : Nat) (y : V) (H H' : Hp), TSm K H H' → (∃ l r, lines[i]? = some l ∧ parseRow l = some r ∧ RowV K H y r) → ∃ l r, lines[i]? = some l ∧ parseRow l = some r ∧ RowV K H' y r := by
      rintro i y H H' t ⟨l, r, e1, e2, h⟩
      exact ⟨l, r, e1, e2, h.mono t⟩
    have turn : ∀ (i : Nat) (x : V) (H1 H' : Hp), i < (lines.map V.str).length → Same H H1 → (∀ j, j < i → ∃ y, ∃ l r, lines[j]? = some l ∧ parseRow l = some r ∧ RowV K H1 y r) → YPair (fun i => some (.int (1 + (i : Nat)))) (fun i => (lines.map V.str)[i]?) i H1 x H' →
        gTup K 2 (gCons (gName 1) (gCons (gName 2) gNil)) x (wipe [some (V.ref p), none, none] [1, 2]) H' fun σ2 H2 => Same H1 H2 ∧ wipe σ2 [1, 2] = wipe [some (V.ref p), none, none] [1, 2] ∧ ∀ Qy : VK, (∀ y H4, Same H2 H4 → (∃ l r, lines[i]? = some l ∧ parseRow l = some r ∧ RowV K H4 y r) → Qy y H4) →
          tCallS (spReadRow K C) (fun _ => fun cls d H' => E cls d H') (tCons (tVar 2) (tCons (tVar 1) tNil)) σ2 H2 Qy := by
      rintro i x H1 H' hi s prev ⟨T, c, y, rfl, nT, rfl, ec, ey⟩
      rw [List.length_map] at hi
      cases Option.some.inj ec
      dsimp only at ey
      rw [List.getElem?_map] at ey
      obtain ⟨l, el, rfl⟩ := Option.map_eq_some_iff.mp ey
      have sT : Same H1 (upd H1 T (.tup [.int (1 + (i : Nat)), .str l])) := same_new nT
      refine ⟨T, _, rfl, sqt_new, rfl, _, _, rfl, _, _, rfl, rfl, sT, rfl, fun Qy qy => ?_⟩
      refine ⟨_, rfl, _, rfl, l, _, rfl, hz l (List.mem_of_getElem? el), ⟨by omega, by omega⟩, fun r er v H4 s4 hv => qy v H4 s4 ⟨l, r, el, er, hv⟩, fun er => ?_⟩
      have e := q2 (1 + i) (paper_bad el er fun j l' hj hl' en => by
        obtain ⟨_, l2, r2, f1, f2, _⟩ := prev j hj
        rw [hl'] at f1
        cases Option.some.inj f1
        rw [en] at f2
        cases f2)
      exact (show Raises1 C "line" (1 + (i : Int)) H E by
        have z : ((1 + i : Nat) : Int) = 1 + (i : Int) := by omega
        rw [← z]
        exact e).back (s.trans sT)
    have done : ∀ D ys H', H D = none → Same H H' → H' D = some (.lst ys) → ys.length = (lines.map V.str).length → (∀ (i : Nat) (y : V), ys[i]? = some y → ∃ l r, lines[i]? = some l ∧ parseRow l = some r ∧ RowV K H' y r) → rTupleOf K [.ref D] H' Q := by
      intro D ys H' hD s hy hly hr
      rw [List.length_map] at hly
      have hall : ∀ l ∈ lines, parseRow l ≠ none := by
        intro l hl
        obtain ⟨j, hj⟩ := List.mem_iff_getElem?.mp hl
        have hlt : j < ys.length := by
          rw [hly]
          exact (List.getElem?_eq_some_iff.mp hj).1
        obtain ⟨l', r, e1, e2, _⟩ := hr j _ (List.getElem?_eq_getElem hlt)
        rw [hj] at e1
        cases Option.some.inj e1
        rw [e2]
        exact fun z => nomatch z
      obtain ⟨rs, e1, e2, e3⟩ := paper_all (k := 1) hall
      refine ⟨D, ys, rfl, .inl ⟨.inl (.inl hy), fun q hq => ?_⟩⟩
      refine q1 rs e1 q ys _ (s.trans (same_new hq)) sqt_new ⟨by rw [hly, e2], fun j v r hv hr2 => ?_⟩
      obtain ⟨l, r', f1, f2, f3⟩ := hr j v hv
      obtain ⟨r2, g1, g2⟩ := e3 j l f1
      rw [hr2] at g1
      cases Option.some.inj g1
      rw [f2] at g2
      cases Option.some.inj g2
      exact f3.mono (tsm_same (same_new hq))
    refine ⟨.ref p, rfl, p, lines.map V.str, 1, rfl, rfl, by decide, by decide, ?_⟩
    rcases hp with hp | hp
    · exact .inl ⟨hp, lc_all (Q := fun x H1 => rTupleOf K [x] H1 Q) walk_enL _ R0 (by rw [List.length_map]; omega) (fun H1 s => same_l s hp) turn done gTup2_mono⟩
    · exact .inr ⟨hp, lc_all (Q := fun x H1 => rTupleOf K [x] H1 Q) walk_enT _ R0 (by rw [List.length_map]; omega) (fun H1 s => same_t s hp) turn done gTup2_mono⟩
end
end K54

namespace K54
open PySem PySem.Spec PyProof.Rows TL L2 L3
section
variable {P : Program} {w : World} {K : PySem.W.Frag} {mg : Str → Option Value} {base : Heap}
def In1000 (ns : List Int) : Prop := ∀ n ∈ ns, 0 ≤ n ∧ n < 1000
theorem In1000.app {ns : List Int} (h : In1000 ns) {e : Int} : In1000 (ns ++ [e % 1000]) := fun n hn => by
  rcases List.mem_append.mp hn with hn | hn
  · exact h n hn
  · have : n = e % 1000 := by simpa using hn
    omega
def spNumbers (K : PySem.W.Frag) : Sp := fun vs H Q _ => ∃ (p : Addr) (cs : List Int) (count : Nat), vs = [.ref p, .int (count : Nat)] ∧ SqL K H p (cs.map V.int) ∧ cs.length ≤ 1000 ∧ count ≤ 10000 ∧
  ∀ D ns H', Same H H' → H D = none → H' D = some (.lst (ns.map V.int)) → ns.length = count → In1000 ns → Q (.ref D) H'
theorem sc__law_numbers : FnScope ["script", "count", "numbers", "base", "cell", "left", "k"] ["script", "count"] (defScope (topS 16)) := ⟨rfl, rfl, rfl, by decide +kernel, rfl, by decide +kernel, by decide +kernel⟩
theorem ok_numbers {f : Addr} {fd : FuncData} (F : Fun K "_law_numbers" "_law_numbers" (topS 16) f fd) (T : Txt mg) : FnOk P w K mg base (L2.CX P w) 1 f fd ["script", "count"] (spNumbers K) := by
  refine F.okX sc__law_numbers (fun vs H Q E h => ?_) (fun cdv A outer s H vs Q E hr h => ?_)
  · obtain ⟨p, cs, count, rfl, _⟩ := h
    rfl
  · obtain ⟨p, cs, count, rfl, hp, hcs, hc, q⟩ := h
    refine ⟨_, (pss_cons (ps_set (i := 2) sc__law_numbers.nd rfl (by first | exact Or.inl rfl | exact Or.inr rfl) (pe_lst pa_nil))
  (pss_cons (ps_set (i := 3) sc__law_numbers.nd rfl (by first | exact Or.inl rfl | exact Or.inr rfl) (pe_callB (call_lenK K rfl) (by rfl) T.z_len PySem.boot_len (pa_cons (pv 0) pa_nil)))
  (pss_cons (ps_for (passes_of rfl) rfl (pi_anyK K rfl (pv 0)) (pg_name (i := 4) sc__law_numbers.nd rfl (by first | exact Or.inl rfl | exact Or.inr rfl))
   (pss_cons (ps_set (i := 5) sc__law_numbers.nd rfl (by first | exact Or.inl rfl | exact Or.inr rfl) (pe_callB call_abs (by rfl) T.z_abs (by decide +kernel) (pa_cons (pv 4) pa_nil)))
  (pss_cons (ps_set (i := 3) sc__law_numbers.nd rfl (by first | exact Or.inl rfl | exact Or.inr rfl) (pe_op op_mod (pe_callTy call_intOf (by rfl) T.z_int (by decide +kernel) (pa_cons (pe_op (opAddK K rfl) (pe_op opMul (pv 3) pe_int) (pv 5)) pa_nil)) pe_int))
  (pss_one (ps_if (pt_cmpR op_ge (pv 5) (pe_op op_pow pe_int pe_int) (nomark _)) (pss_one (ps_for (passes_of rfl) rfl (pi_range1 rfl T.z_range (pa_int pa_nil)) (pg_name (i := 6) sc__law_numbers.nd rfl (by first | exact Or.inl rfl | exact Or.inr rfl))
   (pss_one (ps_if (PW.pt (pw_and (pt_cmpR op_gt (pv 5) pe_int (nomark _)) (pw_and1 (pt_cmpR op_lt (pe_callB (call_lenK K rfl) (by rfl) T.z_len PySem.boot_len (pa_cons (pv 2) pa_nil)) (pv 1) (nomark _))))) (pss_cons (ps_expr (pe_appendK K rfl (pv 2) (pa_cons (pe_op op_mod (pe_callTy call_intOf (by rfl) T.z_int (by decide +kernel) (pa_cons (pv 5) pa_nil)) pe_int) pa_nil)))
  (pss_one (ps_set (i := 5) sc__law_numbers.nd rfl (by first | exact Or.inl rfl | exact Or.inr rfl) (pe_op op_fdiv (pv 5) pe_int)))) pss_nil)))) (pss_one (ps_if (pt_cmpR op_lt (pe_callB (call_lenK K rfl) (by rfl) T.z_len PySem.boot_len (pa_cons (pv 2) pa_nil)) (pv 1) (nomark _)) (pss_one (ps_expr (pe_appendK K rfl (pv 2) (pa_cons (pe_op op_mod (pe_op op_mod (pe_callTy call_intOf (by rfl) T.z_int (by decide +kernel) (pa_cons (pe_op opMul (pe_op op_mod (pe_callTy call_intOf (by rfl) T.z_int (by decide +kernel) (pa_cons (pe_op (opAddK K rfl) (pe_op opMul (pv 5) pe_int) pe_int) pa_nil)) pe_int) pe_int) pa_nil)) pe_int) pe_int) pa_nil)))) pss_nil)))))))
  (pss_cons (ps_for (passes_of rfl) rfl (pi_range1 rfl T.z_range (pa_cons (pv 1) pa_nil)) (pg_name (i := 6) sc__law_numbers.nd rfl (by first | exact Or.inl rfl | exact Or.inr rfl))
   (pss_one (ps_if (pt_cmpR op_lt (pe_callB (call_lenK K rfl) (by rfl) T.z_len PySem.boot_len (pa_cons (pv 2) pa_nil)) (pv 1) (nomark _)) (pss_one (ps_expr (pe_appendK K rfl (pv 2) (pa_cons (pe_op op_mod (pe_op op_mod (pe_callTy call_intOf (by rfl) T.z_int (by decide +kernel) (pa_cons (pe_op opMul (pe_op op_mod (pe_callTy call_intOf (by rfl) T.z_int (by decide +kernel) (pa_cons (pe_op (opAddK K rfl) (pe_op (opAddK K rfl) (pe_op opMul (pv 3) pe_int) (pe_op opMul (pe_op opMul (pv 6) (pv 6)) pe_int)) (pe_op opMul (pv 6) pe_int)) pa_nil)) pe_int) pe_int) pa_nil)) pe_int) pe_int) pa_nil)))) pss_nil)))
  (pss_one (ps_ret (pv 2))))))), ?_⟩
    refine ⟨Nat.zero_le _, fun D hD => ?_⟩
    let S0 : L2.St → Hp → List Int → Int → Prop := fun σ H' ns base => ∃ y4 y5 y6, σ = [some (.ref p), some (.int (count : Nat)), some (.ref D), some (.int base), y4, y5, y6] ∧ Same H H' ∧ H' D = some (.lst (ns.map V.int)) ∧ ns.length ≤ count ∧ In1000 ns ∧ 0 ≤ base ∧ base < 2147483647
    have mutD : ∀ {H' : Hp} {o : HO}, Same H H' → Same H (upd H' D o) := fun s => same_mut s hD
    have mp : ∀ {ns : List Int} {e : Int}, (ns.map V.int) ++ [V.int e] = (ns ++ [e]).map V.int := by
      intro ns e
      rw [List.map_append]
      rfl
    refine vl_l (K := K) (xs := cs.map V.int) (val_var rfl) (same_l (same_new hD) hp) _ ?_
    refine for_seq (K := K) (H0 := H) (xs := cs.map V.int) (val_var rfl) (.inl hp) (same_new hD) (fun i σ H' => ∃ ns base, S0 σ H' ns base) ⟨[], _, none, none, none, rfl, same_new hD, upd_same, Nat.zero_le _, (fun n hn => by simp at hn), by omega, by rw [List.length_map]; omega⟩ ?_ ?_ ?_
    · rintro i σ H' ⟨ns, b, y4, y5, y6, _, s, _⟩
      exact s
    · rintro i x σ H1 hx ⟨ns, b, y4, y5, y6, rfl, s1, hD1, hl1, hin, b0, b1⟩
      rw [List.getElem?_map] at hx
      obtain ⟨c, ec, rfl⟩ := Option.map_eq_some_iff.mp hx
      refine st_seq (st_set (v_abs (i := c) (val_var rfl)) ?_)
      refine st_seq (st_set (v_mod (v_int (v_add (v_mulL (i := b) (j := 31) (val_var rfl) val_c (by omega)) (val_var rfl))) val_c (by decide)) ?_)
      generalize hlf : (if c < 0 then -c else c) = lf
      have lf0 : 0 ≤ lf := by
        rw [← hlf]
        split <;> omega
      generalize hb : (b * 31 + lf) % 2147483647 = b2
      have b20 : 0 ≤ b2 ∧ b2 < 2147483647 := by omega
      have len : ∀ {y4 y5 y6 : Option V} {H' : Hp} {ns : List Int} {b : Int}, H' D = some (.lst (ns.map V.int)) → Val (tCB (rLenK K) (tCons (tVar 2) tNil)) [some (V.ref p), some (V.int (count : Nat)), some (V.ref D), some (V.int b), y4, y5, y6] H' (.int (ns.length : Nat)) := by
        intro y4 y5 y6 H' ns b e
        have := vl_l (K := K) (ta := tVar 2) (σ := [some (V.ref p), some (V.int (count : Nat)), some (V.ref D), some (V.int b), y4, y5, y6]) (xs := ns.map V.int) (val_var rfl) (.inl (.inl e))
        rw [List.length_map] at this
        exact this
      refine st_if (10 ^ 18 ≤ lf) (a_ge (val_var rfl) (v_I val_c val_c ⟨by decide, by decide, by decide⟩)) (fun h => ?_) (fun h => ?_)
      · refine for_rng1 val_c ⟨by decide, by decide⟩ (fun k σ H' => ∃ ns lf y6, σ = [some (.ref p), some (.int (count : Nat)), some (.ref D), some (.int b2), some (.int c), some (.int lf), y6] ∧ Same H H' ∧ H' D = some (.lst (ns.map V.int)) ∧ ns.length ≤ count ∧ In1000 ns) ⟨ns, lf, y6, rfl, s1, hD1, hl1, hin⟩ ?_ ?_
        · rintro k σ H2 hk ⟨ns2, lf2, y6, rfl, s2, hD2, hl2, hin2⟩
          refine st_if (0 < lf2 ∧ (ns2.length : Int) < count) (Ans.and (a_gt (val_var rfl) val_c) fun _ => a_lt (len hD2) (val_var rfl)) (fun h => ?_) (fun h => ?_)
          · refine st_app (val_var rfl) (v_mod (v_int (val_var rfl)) val_c (by decide)) hD2 (by rw [List.length_map]; omega) ?_
            refine st_set (v_div (val_var rfl) val_c (by decide)) ⟨_, _, _, rfl, mutD s2, by rw [upd_same, mp], ?_, hin2.app⟩
            rw [List.length_append, List.length_singleton]
            omega
          · exact ⟨ns2, lf2, _, rfl, s2, hD2, hl2, hin2⟩
        · rintro σ H2 ⟨ns2, lf2, y6, rfl, s2, hD2, hl2, hin2⟩
          exact ⟨ns2, b2, _, _, _, rfl, s2, hD2, hl2, hin2, b20.1, b20.2⟩
      · refine st_if ((ns.length : Int) < count) (a_lt (len hD1) (val_var rfl)) (fun h2 => ?_) (fun h2 => ?_)
        · refine st_app (val_var rfl) (v_mod (v_mod (v_int (v_mulR (v_mod (v_int (v_add (v_mulR (i := lf) (val_var rfl) val_c (by decide)) val_c)) val_c (by decide)) val_c (by decide))) val_c (by decide)) val_c (by decide)) hD1 (by rw [List.length_map]; omega) ?_
          refine ⟨_, b2, _, _, _, rfl, mutD s1, by rw [upd_same, mp], ?_, hin.app, b20.1, b20.2⟩
          rw [List.length_append, List.length_singleton]
          omega
        · exact ⟨ns, b2, _, _, _, rfl, s1, hD1, hl1, hin, b20.1, b20.2⟩
    · rintro σ H1 ⟨ns, b, y4, y5, y6, rfl, s1, hD1, hl1, hin, b0, b1⟩
      have len : ∀ {y6 : Option V} {H' : Hp} {ns : List Int} {b : Int}, H' D = some (.lst (ns.map V.int)) → Val (tCB (rLenK K) (tCons (tVar 2) tNil)) [some (V.ref p), some (V.int (count : Nat)), some (V.ref D), some (V.int b), y4, y5, y6] H' (.int (ns.length : Nat)) := by
        intro y6 H' ns b e
        have := vl_l (K := K) (ta := tVar 2) (σ := [some (V.ref p), some (V.int (count : Nat)), some (V.ref D), some (V.int b), y4, y5, y6]) (xs := ns.map V.int) (val_var rfl) (.inl (.inl e))
        rw [List.length_map] at this
        exact this
      refine for_rng1 (n := (count : Nat)) (val_var rfl) ⟨by omega, by omega⟩ (fun k σ H' => ∃ ns y6, σ = [some (.ref p), some (.int (count : Nat)), some (.ref D), some (.int b), y4, y5, y6] ∧ Same H H' ∧ H' D = some (.lst (ns.map V.int)) ∧ ns.length ≤ count ∧ k ≤ ns.length ∧ In1000 ns) ⟨ns, y6, rfl, s1, hD1, hl1, Nat.zero_le _, hin⟩ ?_ ?_
      · rintro k σ H2 hk ⟨ns2, y6, rfl, s2, hD2, hl2, hk2, hin2⟩
        refine st_if ((ns2.length : Int) < count) (a_lt (len hD2) (val_var rfl)) (fun h2 => ?_) (fun h2 => ?_)
        · have hk3 : -(2 ^ 64) < (k : Int) ∧ (k : Int) < 2 ^ 64 := by omega
          refine st_app (val_var rfl) (v_mod (v_mod (v_int (v_mulR (v_mod (v_int (v_add (v_add (v_mulL (i := b) (val_var rfl) val_c (by omega)) (v_mulR (v_mulL (i := (k : Int)) (j := (k : Int)) (val_var rfl) (val_var rfl) hk3) val_c (by decide))) (v_mulR (i := (k : Int)) (val_var rfl) val_c (by decide)))) val_c (by decide)) val_c (by decide))) val_c (by decide)) val_c (by decide)) hD2 (by rw [List.length_map]; omega) ?_
          refine ⟨_, _, rfl, mutD s2, by rw [upd_same, mp], ?_, ?_, hin2.app⟩ <;> rw [List.length_append, List.length_singleton] <;> omega
        · exact ⟨ns2, _, rfl, s2, hD2, hl2, by omega, hin2⟩
      · rintro σ H2 ⟨ns2, y6, rfl, s2, hD2, hl2, hk2, hin2⟩
        exact ⟨_, rfl, q D ns2 H2 s2 hD hD2 (by omega) hin2⟩
end
end K54

namespace K54
open PySem PySem.Spec PyProof.Rows TL L2 L3
section
variable {P : Program} {w : World} {K : PySem.W.Frag} {mg : Str → Option Value} {base : Heap}
def spValue (K : PySem.W.Frag) : Sp := fun vs H Q _ => ∃ (p : Addr) (ns : List Int) (i : Int), vs = [.ref p, .int i] ∧ SqL K H p (ns.map V.int) ∧ In1000 ns ∧ ns ≠ [] ∧ ns.length ≤ 10000 ∧ ∀ n H', Same H H' → okN n → Q (.int n) H'
theorem sc__law_value : FnScope ["numbers", "at", "a", "b", "c", "d", "edges"] ["numbers", "at"] (defScope (topS 18)) := ⟨rfl, rfl, rfl, by decide +kernel, rfl, by decide +kernel, by decide +kernel⟩
theorem ok_value {f : Addr} {fd : FuncData} (F : Fun K "_law_value" "_law_value" (topS 18) f fd) (T : Txt mg) : FnOk P w K mg base (L2.CX P w) 1 f fd ["numbers", "at"] (spValue K) := by
  refine F.okX sc__law_value (fun vs H Q E h => ?_) (fun cdv A outer s H vs Q E hr h => ?_)
  · obtain ⟨p, ns, i, rfl, _⟩ := h
    rfl
  · obtain ⟨p, ns, i, rfl, hp, hin, hne, hl, q⟩ := h
    refine ⟨_, (pss_cons (ps_set (i := 2) sc__law_value.nd rfl (by first | exact Or.inl rfl | exact Or.inr rfl) (pe_ix (ixK K rfl) (pv 0) (pe_op op_mod (pe_callTy call_intOf (by rfl) T.z_int (by decide +kernel) (pa_cons (pv 1) pa_nil)) (pe_callB (call_lenK K rfl) (by rfl) T.z_len PySem.boot_len (pa_cons (pv 0) pa_nil))) (fun _ _ => rfl)))
  (pss_cons (ps_set (i := 3) sc__law_value.nd rfl (by first | exact Or.inl rfl | exact Or.inr rfl) (pe_ix (ixK K rfl) (pv 0) (pe_op op_mod (pe_callTy call_intOf (by rfl) T.z_int (by decide +kernel) (pa_cons (pe_op (opAddK K rfl) (pv 1) pe_int) pa_nil)) (pe_callB (call_lenK K rfl) (by rfl) T.z_len PySem.boot_len (pa_cons (pv 0) pa_nil))) (fun _ _ => rfl)))
  (pss_cons (ps_set (i := 4) sc__law_value.nd rfl (by first | exact Or.inl rfl | exact Or.inr rfl) (pe_ix (ixK K rfl) (pv 0) (pe_op op_mod (pe_callTy call_intOf (by rfl) T.z_int (by decide +kernel) (pa_cons (pe_op (opAddK K rfl) (pv 1) pe_int) pa_nil)) (pe_callB (call_lenK K rfl) (by rfl) T.z_len PySem.boot_len (pa_cons (pv 0) pa_nil))) (fun _ _ => rfl)))
  (pss_cons (ps_set (i := 5) sc__law_value.nd rfl (by first | exact Or.inl rfl | exact Or.inr rfl) (pe_ix (ixK K rfl) (pv 0) (pe_op op_mod (pe_callTy call_intOf (by rfl) T.z_int (by decide +kernel) (pa_cons (pe_op (opAddK K rfl) (pv 1) pe_int) pa_nil)) (pe_callB (call_lenK K rfl) (by rfl) T.z_len PySem.boot_len (pa_cons (pv 0) pa_nil))) (fun _ _ => rfl)))
  (pss_cons (ps_set (i := 6) sc__law_value.nd rfl (by first | exact Or.inl rfl | exact Or.inr rfl) (pe_lst (pa_int (pa_int (pa_int (pa_int (pa_int (pa_int pa_nil))))))))
  (pss_cons (ps_if (pt_cmpR opEq (pe_op op_mod (pe_callTy call_intOf (by rfl) T.z_int (by decide +kernel) (pa_cons (pv 2) pa_nil)) pe_int) pe_int (nomark _)) (pss_one (ps_ret (pe_ix (ixK K rfl) (pv 6) (pe_op op_mod (pe_callTy call_intOf (by rfl) T.z_int (by decide +kernel) (pa_cons (pe_op op_fdiv (pv 2) pe_int) pa_nil)) pe_int) (fun _ _ => rfl)))) pss_nil)
  (pss_cons (ps_if (pt_cmpR opEq (pe_op op_mod (pe_callTy call_intOf (by rfl) T.z_int (by decide +kernel) (pa_cons (pv 2) pa_nil)) pe_int) pe_int (nomark _)) (pss_one (ps_ret (pe_op op_mod (pe_callTy call_intOf (by rfl) T.z_int (by decide +kernel) (pa_cons (pv 3) pa_nil)) pe_int))) pss_nil)
  (pss_one (ps_ret (pe_op (opAddK K rfl) (pe_op (opAddK K rfl) (pe_op opMul (pv 3) pe_int) (pe_op opMul (pv 4) pe_int)) (pv 5))))))))))), ?_⟩
    have pos : 0 < ((ns.map V.int).length : Int) := by
      rw [List.length_map]
      have : 0 < ns.length := List.length_pos_iff.mpr hne
      omega
    obtain ⟨a, ha, ea⟩ := at_mod hne i
    obtain ⟨b, hb, eb⟩ := at_mod hne (i + 1)
    obtain ⟨c, hc, ec⟩ := at_mod hne (i + 2)
    obtain ⟨d, hd, ed⟩ := at_mod hne (i + 3)
    have ha2 := hin a ha
    have hb2 := hin b hb
    have hc2 := hin c hc
    have hd2 := hin d hd
    have ml : ((ns.map V.int).length : Int) = (ns.length : Int) := by rw [List.length_map]
    refine sq_set (vx_l (val_var rfl) (v_mod (v_int (i := i) (val_var rfl)) (vl_l (val_var rfl) hp) pos) hp (by rw [ml]; exact ea)) ?_
    refine sq_set (vx_l (val_var rfl) (v_mod (v_int (v_add (i := i) (val_var rfl) val_c)) (vl_l (val_var rfl) hp) pos) hp (by rw [ml]; exact eb)) ?_
    refine sq_set (vx_l (val_var rfl) (v_mod (v_int (v_add (i := i) (val_var rfl) val_c)) (vl_l (val_var rfl) hp) pos) hp (by rw [ml]; exact ec)) ?_
    refine sq_set (vx_l (val_var rfl) (v_mod (v_int (v_add (i := i) (val_var rfl) val_c)) (vl_l (val_var rfl) hp) pos) hp (by rw [ml]; exact ed)) ?_
    refine sq_asg ⟨by show 6 ≤ sizeLine; decide, fun e he => ?_⟩
    have sE : SqL K (upd H e (.lst ([0, 9, 10, 99999999, 100000000, 999999999].map V.int))) e ([0, 9, 10, 99999999, 100000000, 999999999].map V.int) := sql_new
    refine sq_ifR (a % 4 = 0) (a_eqI (v_mod (v_int (i := a) (val_var rfl)) val_c (by decide)) val_c) (fun h => ?_) (fun h => ?_)
    · have h1 : 0 ≤ a / 4 % 6 ∧ a / 4 % 6 < 6 := by omega
      obtain ⟨m, hm, em⟩ := at_mod (ns := [0, 9, 10, 99999999, 100000000, 999999999]) (by decide) (a / 4)
      refine vx_l (val_var rfl) (v_mod (v_int (v_div (i := a) (val_var rfl) val_c (by decide))) val_c (by decide)) sE em _ (q m _ (same_new he) ?_)
      simp only [List.mem_cons, List.not_mem_nil, or_false] at hm
      unfold okN
      omega
    · refine sq_ifR (a % 4 = 1) (a_eqI (v_mod (v_int (i := a) (val_var rfl)) val_c (by decide)) val_c) (fun h => ?_) (fun h => ?_)
      · refine v_mod (v_int (i := b) (val_var rfl)) val_c (by decide) _ (q _ _ (same_new he) ?_)
        unfold okN
        omega
      · refine v_add (v_add (v_mulR (i := b) (val_var rfl) val_c (by decide)) (v_mulR (i := c) (val_var rfl) val_c (by decide))) (j := d) (val_var rfl) _ (q _ _ (same_new he) ?_)
        unfold okN
        omega
/-! ### -/
def spParted (K : PySem.W.Frag) : Sp := fun vs H Q _ => ∃ (v : V) (ws : List Int) (m : Int), vs = [v, .int m] ∧ NumsV K H v ws ∧ wfW ws ∧ 0 ≤ m ∧ ∀ v H' wss, Same H H' → WalksV K H' v wss → (Row.pages wss).wf → Q v H'
theorem sc__law_parted : FnScope ["walk", "number", "many", "longer", "walks", "at", "k", "end"] ["walk", "number"] (defScope (topS 19)) := ⟨rfl, rfl, rfl, by decide +kernel, rfl, by decide +kernel, by decide +kernel⟩
theorem ok_parted {f : Addr} {fd : FuncData} (F : Fun K "_law_parted" "_law_parted" (topS 19) f fd) (T : Txt mg) : FnOk P w K mg base (L2.CX P w) 1 f fd ["walk", "number"] (spParted K) := by
  refine F.okX sc__law_parted (fun vs H Q E h => ?_) (fun cdv A outer s H vs Q E hr h => ?_)
  · obtain ⟨p, ns, i, rfl, _⟩ := h
    rfl
  · obtain ⟨v, ws, m, rfl, ⟨p, rfl, hp⟩, hw, hm, q⟩ := h
    refine ⟨_, (pss_cons (ps_set (i := 2) sc__law_parted.nd rfl (by first | exact Or.inl rfl | exact Or.inr rfl) (pe_callB (call_min2 rfl) (by rfl) T.z_min (by decide +kernel) (pa_cons (pe_callB (call_lenK K rfl) (by rfl) T.z_len PySem.boot_len (pa_cons (pv 0) pa_nil)) (pa_cons (pe_op (opAddK K rfl) (pe_op op_mod (pe_callTy call_intOf (by rfl) T.z_int (by decide +kernel) (pa_cons (pv 1) pa_nil)) pe_int) pe_int) pa_nil))))
  (pss_cons (ps_set (i := 3) sc__law_parted.nd rfl (by first | exact Or.inl rfl | exact Or.inr rfl) (pe_op op_mod (pe_callTy call_intOf (by rfl) T.z_int (by decide +kernel) (pa_cons (pe_op op_fdiv (pv 1) pe_int) pa_nil)) (pv 2)))
  (pss_cons (ps_set (i := 4) sc__law_parted.nd rfl (by first | exact Or.inl rfl | exact Or.inr rfl) (pe_lst pa_nil))
  (pss_cons (ps_set (i := 5) sc__law_parted.nd rfl (by first | exact Or.inl rfl | exact Or.inr rfl) pe_int)
  (pss_cons (ps_for (passes_of rfl) rfl (pi_range1 rfl T.z_range (pa_cons (pv 2) pa_nil)) (pg_name (i := 6) sc__law_parted.nd rfl (by first | exact Or.inl rfl | exact Or.inr rfl))
   (pss_cons (ps_set (i := 7) sc__law_parted.nd rfl (by first | exact Or.inl rfl | exact Or.inr rfl) (pe_op (opAddK K rfl) (pv 5) pe_int))
  (pss_cons (ps_if (pt_cmpR opEq (pv 6) (pv 3) (nomark _)) (pss_one (ps_set (i := 7) sc__law_parted.nd rfl (by first | exact Or.inl rfl | exact Or.inr rfl) (pe_op op_sub (pe_op (opAddK K rfl) (pv 7) (pe_callB (call_lenK K rfl) (by rfl) T.z_len PySem.boot_len (pa_cons (pv 0) pa_nil))) (pv 2)))) pss_nil)
  (pss_cons (ps_expr (pe_appendK K rfl (pv 4) (pa_cons (pe_slice (slAnyK K rfl) (pv 0) (po_some (pv 5)) (po_some (pv 7))) pa_nil)))
  (pss_one (ps_set (i := 5) sc__law_parted.nd rfl (by first | exact Or.inl rfl | exact Or.inr rfl) (pv 7)))))))
  (pss_one (ps_ret (pe_callTy (call_tupleK K rfl) (by rfl) T.z_tuple (by decide +kernel) (pa_cons (pv 4) pa_nil))))))))), ?_⟩
    have wl : 0 < ws.length := List.length_pos_iff.mpr hw.1
    have wl2 := hw.2.1
    have ml : ((ws.map V.int).length : Int) = (ws.length : Int) := by rw [List.length_map]
    have vmin : ∀ {ta tb : TE} {σ : L2.St} {H : Hp} {i j : Int}, Val ta σ H (.int i) → Val tb σ H (.int j) → Val (tCB (fun xs H Q => ∃ i j, xs = [V.int i, V.int j] ∧ Q (.int (if j < i then j else i)) H) (tCons ta (tCons tb tNil))) σ H (.int (if j < i then j else i)) := fun h g Q q => h _ (g _ ⟨_, _, rfl, q⟩)
    refine sq_set (vmin (vl_t (val_var rfl) hp) (v_add (v_mod (v_int (i := m) (val_var rfl)) val_c (by decide)) val_c)) ?_
    rw [ml]
    generalize hmn : (if m % 5 + 1 < (ws.length : Int) then m % 5 + 1 else (ws.length : Int)) = many
    have m1 : 1 ≤ many ∧ many ≤ ws.length ∧ many ≤ 5 := by
      rw [← hmn]
      split <;> omega
    refine sq_set (v_mod (v_int (v_div (i := m) (val_var rfl) val_c (by decide))) (j := many) (val_var rfl) (by omega)) ?_
    generalize hlg : m / 5 % many = lg
    have l1 : 0 ≤ lg ∧ lg < many := by
      rw [← hlg]
      exact ⟨Int.emod_nonneg _ (by omega), Int.emod_lt_of_pos _ (by omega)⟩
    refine sq_asg ⟨Nat.zero_le _, fun W hW => ?_⟩
    refine sq_set val_c ?_
    refine sq_for (for_rng1 (n := many) (val_var rfl) ⟨by omega, by omega⟩ (fun k σ H' => ∃ qs wss y6 y7, ∃ att : Int, σ = [some (.ref p), some (.int m), some (.int many), some (.int lg), some (.ref W), some (.int att), y6, y7] ∧ Same H H' ∧ H' W = some (.lst qs) ∧ All2 (NumsV K H') qs wss ∧ wss.length = k ∧ (∀ ws ∈ wss, wfW ws) ∧ att = (k : Int) + (if lg < (k : Int) then (ws.length : Int) - many else 0))
      ⟨[], [], none, none, 0, rfl, same_new hW, upd_same, All2.nil, rfl, (fun ws h => by simp at h), by rw [if_neg (by omega)]; rfl⟩ ?_ ?_)
    · rintro k σ H1 hk ⟨qs, wss, y6, y7, att, rfl, s1, h1, ha, hn, hwf, hat⟩
      have hendd : ∃ en : Nat, ∃ an : Nat, att = (an : Int) ∧ an < en ∧ en ≤ ws.length ∧ (en : Int) = ((k + 1 : Nat) : Int) + (if lg < ((k + 1 : Nat) : Int) then (ws.length : Int) - many else 0) ∧ (if (k : Int) = lg then att + 1 + (ws.length : Int) - many else att + 1) = (en : Int) := by
        have k2 : ((k + 1 : Nat) : Int) = (k : Int) + 1 := by omega
        rw [k2]
        by_cases c1 : lg < (k : Int)
        · rw [if_pos c1] at hat
          refine ⟨(att + 1).toNat, att.toNat, ?_, ?_, ?_, ?_, ?_⟩
          · omega
          · omega
          · omega
          · rw [if_pos (by omega)]; omega
          · rw [if_neg (by omega)]; omega
        · rw [if_neg c1] at hat
          by_cases c2 : (k : Int) = lg
          · refine ⟨(att + 1 + (ws.length : Int) - many).toNat, att.toNat, ?_, ?_, ?_, ?_, ?_⟩
            · omega
            · omega
            · omega
            · rw [if_pos (by omega)]; omega
            · rw [if_pos c2]; omega
          · refine ⟨(att + 1).toNat, att.toNat, ?_, ?_, ?_, ?_, ?_⟩
            · omega
            · omega
            · omega
            · rw [if_neg (by omega)]; omega
            · rw [if_neg c2]; omega
      obtain ⟨en, an, rfl, hae, hew, hat2, hen⟩ := hendd
      refine sq_set (v_add (i := (an : Int)) (val_var rfl) val_c) ?_
      have rest : ∀ (σ : L2.St), σ = [some (.ref p), some (.int m), some (.int many), some (.int lg), some (.ref W), some (.int (an : Int)), some (.int (k : Nat)), some (.int (en : Int))] →
          tSeq (tDrop (tBM K "list" rAppend (tVar 4) (tCons (tSl (rSlAny K) (tVar 0) (tPart (tVar 5)) (tPart (tVar 7))) tNil))) (tAsg (tVar 7) (gName 5)) { nx := fun σ H' => ∃ qs wss y6 y7, ∃ att : Int, σ = [some (.ref p), some (.int m), some (.int many), some (.int lg), some (.ref W), some (.int att), y6, y7] ∧ Same H H' ∧ H' W = some (.lst qs) ∧ All2 (NumsV K H') qs wss ∧ wss.length = k + 1 ∧ (∀ ws ∈ wss, wfW ws) ∧ att = ((k + 1 : Nat) : Int) + (if lg < ((k + 1 : Nat) : Int) then (ws.length : Int) - many else 0), rt := fun _ _ => False } σ H1 := by
        rintro σ rfl
        refine un_app (val_var rfl) (.inl ⟨rfl, _, .inl (.inl h1)⟩) (sl_tup (K := K) (lo := some (an : Nat)) (hi := some (en : Nat)) (val_var rfl) (same_t s1 hp) (fun Q q => po_v (val_var rfl) q) (fun Q q => po_v (val_var rfl) q) fun q H2 s2 hq => ?_)
        have t2 : TSm K H1 H2 := tsm_same s2
        have t3 : TSm K H2 (upd H2 W (.lst (qs ++ [.ref q]))) := tsm_lst (s2 _ _ h1)
        refine ⟨W, qs, .ref q, rfl, rfl, s2 _ _ h1, sz_lt (by rw [ha.1]; omega), ?_⟩
        refine ⟨.int (en : Nat), rfl, qs ++ [.ref q], wss ++ [(ws.drop an).take (en - an)], _, _, (en : Int), rfl, same_mut (s1.trans s2) hW, upd_same, All2.app (ha.mono fun _ _ h => h.mono (t2.trans t3)) (All2.one ⟨q, rfl, t3 _ _ ?_⟩), by simp [hn], ?_, hat2⟩
        · rw [cut_nat _ (by rw [List.length_map]; omega), List.length_map, Nat.min_eq_left (by omega)] at hq
          rw [List.map_take, List.map_drop]
          exact hq
        · intro x hx
          rcases List.mem_append.mp hx with hx | hx
          · exact hwf x hx
          · have : x = (ws.drop an).take (en - an) := by simpa using hx
            subst this
            refine ⟨?_, ?_, fun n hn => hw.2.2 n (List.mem_of_mem_drop (List.mem_of_mem_take hn))⟩
            · intro e
              have := congrArg List.length e
              simp at this
              omega
            · rw [List.length_take, List.length_drop]
              omega
      refine sq_ifS ((k : Int) = lg) (a_eqI (val_var rfl) (val_var rfl)) (fun h => ?_) (fun h => ?_)
      · rw [if_pos h] at hen
        refine v_sub (v_add (i := (an : Int) + 1) (val_var rfl) (vl_t (val_var rfl) (same_t s1 hp))) (j := many) (val_var rfl) _ ?_
        rw [ml, hen]
        exact rest _ rfl
      · rw [if_neg h] at hen
        rw [hen]
        exact rest _ rfl
    · rintro σ H1 ⟨qs, wss, y6, y7, att, rfl, s1, h1, ha, hn, hwf, hat⟩
      dsimp only
      refine un_ret (un_cb1 (val_var rfl _ ⟨W, qs, rfl, .inl ⟨.inl (.inl h1), fun l hl => ?_⟩⟩))
      refine q _ _ wss (s1.trans (same_new hl)) ⟨l, qs, rfl, sqt_new, ha.mono fun _ _ h => h.mono (tsm_same (same_new hl))⟩ ⟨?_, by omega, hwf⟩
      intro e
      rw [e] at hn
      simp at hn
      omega
end
end K54

namespace K54
open PySem PySem.Spec PyProof.Rows TL L2 L3
section
variable {P : Program} {w : World} {K : PySem.W.Frag} {mg : Str → Option Value} {base : Heap}
def spPaperRow (K : PySem.W.Frag) : Sp := fun vs H Q _ => ∃ (p : Addr) (ns : List Int) (at_ : Nat), vs = [.ref p, .int (at_ : Nat)] ∧ SqL K H p (ns.map V.int) ∧ In1000 ns ∧ at_ + 2 < ns.length ∧ ns.length ≤ 10000 ∧ ∀ v H' r, Same H H' → RowV K H' v r → r.wf → Q v H'
theorem sc__law_paper_row : FnScope ["numbers", "at", "kind", "many", "walk", "k"] ["numbers", "at"] (defScope (topS 20)) := ⟨rfl, rfl, rfl, by decide +kernel, rfl, by decide +kernel, by decide +kernel⟩
theorem ok_paper_row {f : Addr} {fd : FuncData} (F : Fun K "_law_paper_row" "_law_paper_row" (topS 20) f fd) (T : Txt mg) {f1 f2 : Addr} {d1 d2 : FuncData} (G__law_value : Cal P w K mg base 1 "_law_value" ["numbers", "at"] (spValue K) f1 d1) (G__law_parted : Cal P w K mg base 1 "_law_parted" ["walk", "number"] (spParted K) f2 d2) :
    FnOk P w K mg base (L2.CX P w) 2 f fd ["numbers", "at"] (spPaperRow K) := by
  refine F.okX sc__law_paper_row (fun vs H Q E h => ?_) (fun cdv A outer s H vs Q E hr h => ?_)
  · obtain ⟨p, ns, i, rfl, _⟩ := h
    rfl
  · obtain ⟨p, ns, i, rfl, hp, hin, hi, hl, q⟩ := h
    refine ⟨_, (pss_cons (ps_set (i := 2) sc__law_paper_row.nd rfl (by first | exact Or.inl rfl | exact Or.inr rfl) (pe_op op_mod (pe_callTy call_intOf (by rfl) T.z_int (by decide +kernel) (pa_cons (pe_ix (ixK K rfl) (pv 0) (pv 1) (fun _ _ => rfl)) pa_nil)) pe_int))
  (pss_cons (ps_set (i := 3) sc__law_paper_row.nd rfl (by first | exact Or.inl rfl | exact Or.inr rfl) (pe_op (opAddK K rfl) (pe_op op_mod (pe_callTy call_intOf (by rfl) T.z_int (by decide +kernel) (pa_cons (pe_op op_fdiv (pe_ix (ixK K rfl) (pv 0) (pv 1) (fun _ _ => rfl)) pe_int) pa_nil)) pe_int) pe_int))
  (pss_cons (ps_if (pt_cmpR opEq (pe_op op_mod (pe_callTy call_intOf (by rfl) T.z_int (by decide +kernel) (pa_cons (pe_op op_fdiv (pe_ix (ixK K rfl) (pv 0) (pv 1) (fun _ _ => rfl)) pe_int) pa_nil)) pe_int) pe_int (nomark _)) (pss_one (ps_set (i := 3) sc__law_paper_row.nd rfl (by first | exact Or.inl rfl | exact Or.inr rfl) (pe_op (opAddK K rfl) (pv 3) (pe_op op_mod (pe_callTy call_intOf (by rfl) T.z_int (by decide +kernel) (pa_cons (pe_ix (ixK K rfl) (pv 0) (pe_op (opAddK K rfl) (pv 1) pe_int) (fun _ _ => rfl)) pa_nil)) pe_int)))) pss_nil)
  (pss_cons (ps_set (i := 4) sc__law_paper_row.nd rfl (by first | exact Or.inl rfl | exact Or.inr rfl) (pe_callTy (call_tupleK K rfl) (by rfl) T.z_tuple (by decide +kernel) (pa_cons (pe_lc (own := [("k", 5)]) (g := (gName 5)) rfl sc__law_paper_row.nd (pi_range1 rfl T.z_range (pa_cons (pv 3) pa_nil)) (blkOk_by (N := ["numbers", "at", "kind", "many", "walk", "k"]) (sc := defScope (topS 20)) (by decide +kernel)) (fun _ _ _ _ _ => (pg_name (i := 5) sc__law_paper_row.nd rfl (by first | exact Or.inl rfl | exact Or.inr rfl))) (fun _ _ _ _ _ => pts_nil) (fun _ _ _ _ _ => (pe_call G__law_value.ok (hr.mono (by first | decide | exact Nat.le_refl _)) rfl G__law_value.mg G__law_value.kp G__law_value.bi .nil passL (pa_cons (pv 0) (pa_cons (pe_op (opAddK K rfl) (pe_op (opAddK K rfl) (pv 1) pe_int) (pe_op opMul pe_int (pv 5))) pa_nil))))) pa_nil)))
  (pss_cons (ps_if (pt_cmpR opEq (pv 2) pe_int (nomark _)) (pss_one (ps_ret (pe_tup (pa_str (pa_cons (pe_ix (ixK K rfl) (pv 4) pe_int (fun _ _ => rfl)) (pa_cons (pe_call G__law_value.ok (hr.mono (by first | decide | exact Nat.le_refl _)) rfl G__law_value.mg G__law_value.kp G__law_value.bi .nil passL (pa_cons (pv 0) (pa_cons (pe_op (opAddK K rfl) (pv 1) pe_int) pa_nil))) pa_nil)))))) pss_nil)
  (pss_cons (ps_if (pt_cmpR opEq (pv 2) pe_int (nomark _)) (pss_one (ps_ret (pe_tup (pa_str (pa_cons (pv 4) pa_nil))))) pss_nil)
  (pss_cons (ps_if (pt_cmpR opEq (pv 2) pe_int (nomark _)) (pss_one (ps_ret (pe_tup (pa_str (pa_cons (pv 4) pa_nil))))) pss_nil)
  (pss_one (ps_ret (pe_tup (pa_str (pa_cons (pe_call G__law_parted.ok (hr.mono (by first | decide | exact Nat.le_refl _)) rfl G__law_parted.mg G__law_parted.kp G__law_parted.bi .nil passL (pa_cons (pv 4) (pa_cons (pe_ix (ixK K rfl) (pv 0) (pe_op (opAddK K rfl) (pv 1) pe_int) (fun _ _ => rfl)) pa_nil))) pa_nil)))))))))))), ?_⟩
    have hne : ns ≠ [] := by
      rintro rfl
      simp at hi
    have get : ∀ j : Nat, j < ns.length → ∃ n, atI (ns.map V.int) (j : Int) = some (.int n) ∧ 0 ≤ n ∧ n < 1000 := fun j hj => ⟨ns[j], atI_nat (by rw [List.getElem?_map, List.getElem?_eq_getElem hj]; rfl), hin _ (List.getElem_mem hj)⟩
    obtain ⟨a, ea, ha⟩ := get i (by omega)
    obtain ⟨b, eb, hb⟩ := get (i + 1) (by omega)
    obtain ⟨c, ec, hc⟩ := get (i + 2) (by omega)
    have xa : ∀ {σ : L2.St} {H' : Hp}, σ[0]? = some (some (.ref p)) → σ[1]? = some (some (.int (i : Nat))) → Same H H' → Val (tOp (rIx K) (tVar 0) (tVar 1)) σ H' (.int a) := fun h0 h1 s => vx_l (val_var h0) (val_var h1) (same_l s hp) ea
    have ek : ∀ k : Nat, (i : Int) + ((k : Nat) : Int) = ((i + k : Nat) : Int) := fun k => by omega
    refine sq_set (v_mod (v_int (xa rfl rfl (Same.refl _))) val_c (by decide)) ?_
    refine sq_set (v_add (v_mod (v_int (v_div (xa rfl rfl (Same.refl _)) val_c (by decide))) val_c (by decide)) val_c) ?_
    have main : ∀ (σ : L2.St) (many : Int), σ = [some (.ref p), some (.int (i : Nat)), some (.int (a % 4)), some (.int many), none, none] → 1 ≤ many → many ≤ 60 →
        tSeq (tAsg (tCB (rTupleOf K) (tCons (tLc (iRng1 (tCons (tVar 3) tNil)) (gName 5) tYes (tCall (spValue K) [] E0 (tCons (tVar 0) (tCons (tOp (rAddAny K) (tOp (rAddAny K) (tVar 1) (tC (V.int 3))) (tOp rMulAny (tC (V.int 4)) (tVar 5))) tNil))) [5]) tNil)) (gName 4))
          (tSeq (tIfS (tTest (tOp rEq (tVar 2) (tC (V.int 0)))) (tRet (tTup (tCons (tC (V.str "split")) (tCons (tOp (rIx K) (tVar 4) (tC (V.int 0))) (tCons (tCall (spValue K) [] E0 (tCons (tVar 0) (tCons (tOp (rAddAny K) (tVar 1) (tC (V.int 35))) tNil))) tNil))))) tNext)
          (tSeq (tIfS (tTest (tOp rEq (tVar 2) (tC (V.int 1)))) (tRet (tTup (tCons (tC (V.str "across")) (tCons (tVar 4) tNil)))) tNext)
          (tSeq (tIfS (tTest (tOp rEq (tVar 2) (tC (V.int 2)))) (tRet (tTup (tCons (tC (V.str "down")) (tCons (tVar 4) tNil)))) tNext)
          (tRet (tTup (tCons (tC (V.str "pages")) (tCons (tCall (spParted K) [] E0 (tCons (tVar 4) (tCons (tOp (rIx K) (tVar 0) (tOp (rAddAny K) (tVar 1) (tC (V.int 2)))) tNil))) tNil))))))) { nx := fun x H' => Q V.non H', rt := Q } σ H := by
      rintro σ many rfl m1 m2
      refine sq_asg (un_cb1 ?_)
      refine lc_rng1 (n := many) (K := K) (val_var rfl) ⟨by omega, by omega⟩ (fun _ y _ => ∃ n, y = .int n ∧ okN n) (fun _ _ _ _ _ h => h) ?_ ?_
      · intro k H' hk s
        refine ⟨rfl, fun Qy qy => ?_⟩
        refine ⟨_, rfl, v_add (v_add (i := (i : Nat)) (val_var rfl) val_c) (v_mulL (j := (k : Nat)) val_c (val_var rfl) (by decide)) _ ⟨p, ns, _, rfl, same_l s hp, hin, hne, hl, fun n H4 s4 hn => qy _ _ s4 ⟨n, rfl, hn⟩⟩⟩
      · intro D ys H1 hD s1 hy hly hr
        refine ⟨D, ys, rfl, .inl ⟨.inl (.inl hy), fun t ht => ?_⟩⟩
        obtain ⟨ws, ew, hws⟩ : ∃ ws : List Int, ys = ws.map V.int ∧ ∀ n ∈ ws, okN n := by
          clear hly hy ht
          induction ys with
          | nil => exact ⟨[], rfl, fun n hn => by simp at hn⟩
          | cons y ys ih =>
            obtain ⟨ws, e, h⟩ := ih fun j y hj => hr (j + 1) y (by simpa using hj)
            obtain ⟨n, en, hn⟩ := hr 0 y rfl
            refine ⟨n :: ws, by rw [e, en]; rfl, fun m hm => ?_⟩
            rcases List.mem_cons.mp hm with rfl | hm
            · exact hn
            · exact h m hm
        subst ew
        rw [List.length_map] at hly
        have hwf : wfW ws := ⟨by rintro rfl; simp at hly; omega, by omega, hws⟩
        have s2 : Same H (upd H1 t (.tup (ws.map V.int))) := s1.trans (same_new ht)
        have hT : SqT K (upd H1 t (.tup (ws.map V.int))) t (ws.map V.int) := sqt_new
        clear hy hr
        generalize upd H1 t (.tup (ws.map V.int)) = H2 at s2 hT ⊢
        obtain ⟨w0, wr, ew⟩ : ∃ w0 wr, ws = w0 :: wr := by
          cases ws with
          | nil => exact absurd rfl hwf.1
          | cons a b => exact ⟨a, b, rfl⟩
        refine sq_ifR (a % 4 = 0) (a_eqI (val_var rfl) val_c) (fun h => ?_) (fun h => ?_)
        · have x0 : Val (tOp (rIx K) (tVar 4) (tC (V.int 0))) [some (.ref p), some (.int (i : Nat)), some (.int (a % 4)), some (.int many), some (.ref t), none] H2 (.int w0) := vx_t (val_var rfl) val_c hT (atI_nat (j := 0) (by rw [ew]; rfl))
          refine un_tup (ta_val val_c (ta_val x0 ⟨_, rfl, v_add (i := (i : Nat)) (val_var rfl) val_c _ ⟨p, ns, _, rfl, same_l s2 hp, hin, hne, hl, fun n H3 s3 hn => ?_⟩⟩))
          exact ⟨by show 3 ≤ sizeLine; decide, fun r hr2 => q _ _ (.split w0 n) ((s2.trans s3).trans (same_new hr2)) ⟨_, rfl, sqt_new⟩ ⟨hws w0 (by rw [ew]; simp), hn⟩⟩
        · refine sq_ifR (a % 4 = 1) (a_eqI (val_var rfl) val_c) (fun h => ?_) (fun h => ?_)
          · exact ⟨_, rfl, by show 2 ≤ sizeLine; decide, fun r hr2 => q _ _ (.across ws) (s2.trans (same_new hr2)) ⟨_, _, rfl, sqt_new, t, rfl, same_t (same_new hr2) hT⟩ hwf⟩
          · refine sq_ifR (a % 4 = 2) (a_eqI (val_var rfl) val_c) (fun h => ?_) (fun h => ?_)
            · exact ⟨_, rfl, by show 2 ≤ sizeLine; decide, fun r hr2 => q _ _ (.down ws) (s2.trans (same_new hr2)) ⟨_, _, rfl, sqt_new, t, rfl, same_t (same_new hr2) hT⟩ hwf⟩
            · refine un_ret ?_
              refine ⟨_, rfl, vx_l (val_var rfl) (v_add (i := (i : Nat)) (val_var rfl) val_c) (same_l s2 hp) (by rw [show (2 : Int) = ((2 : Nat) : Int) from rfl, ek]; exact ec) _ ⟨_, ws, c, rfl, ⟨t, rfl, hT⟩, hwf, hc.1, fun v H3 wss s3 hv hwf3 => ?_⟩⟩
              exact ⟨by show 2 ≤ sizeLine; decide, fun r hr2 => q _ _ (.pages wss) ((s2.trans s3).trans (same_new hr2)) ⟨_, _, rfl, sqt_new, hv.mono (tsm_same (same_new hr2))⟩ hwf3⟩
    refine sq_ifS (a / 36 % 8 = 7) (a_eqI (v_mod (v_int (v_div (xa rfl rfl (Same.refl _)) val_c (by decide))) val_c (by decide)) val_c) (fun h => ?_) (fun h => ?_)
    · refine v_add (i := a / 4 % 9 + 1) (val_var rfl) (v_mod (v_int (vx_l (val_var rfl) (v_add (i := (i : Nat)) (val_var rfl) val_c) hp (by rw [show (1 : Int) = ((1 : Nat) : Int) from rfl, ek]; exact eb))) val_c (by decide)) _ ?_
      exact main _ _ rfl (by omega) (by omega)
    · exact main _ _ rfl (by omega) (by omega)
/-! ### -/
theorem sc__law_row_line : FnScope ["row", "walk", "k"] ["row"] (defScope (topS 21)) := ⟨rfl, rfl, rfl, by decide +kernel, rfl, by decide +kernel, by decide +kernel⟩
theorem ok_row_line {f : Addr} {fd : FuncData} (F : Fun K "_law_row_line" "_law_row_line" (topS 21) f fd) (T : Txt mg) : FnOk P w K mg base (L2.CX P w) 1 f fd ["row"] (spPrintRow K) := by
  refine F.okX sc__law_row_line (fun vs H Q E h => ?_) (fun cdv A outer s H vs Q E hr h => ?_)
  · obtain ⟨v, r, rfl, _⟩ := h
    rfl
  · obtain ⟨v, r, rfl, hv, hw, q⟩ := h
    refine ⟨_, (pss_cons (ps_if (pt_cmpR opEq (pe_ix (ixK K rfl) (pv 0) pe_int (fun _ _ => rfl)) pe_str (nomark _)) (pss_one (ps_ret (pe_op (opAddK K rfl) (pe_op (opAddK K rfl) (pe_op (opAddK K rfl) pe_str (pe_callTy call_str_int (by rfl) T.z_str (by decide +kernel) (pa_cons (pe_ix (ixK K rfl) (pv 0) pe_int (fun _ _ => rfl)) pa_nil))) pe_str) (pe_callTy call_str_int (by rfl) T.z_str (by decide +kernel) (pa_cons (pe_ix (ixK K rfl) (pv 0) pe_int (fun _ _ => rfl)) pa_nil))))) pss_nil)
  (pss_cons (ps_if (pt_cmpR opEq (pe_ix (ixK K rfl) (pv 0) pe_int (fun _ _ => rfl)) pe_str (nomark _)) (pss_one (ps_ret (pe_op (opAddK K rfl) pe_str (pe_joinK K rfl pe_str (pe_lc (own := [("walk", 1)]) (g := (gName 1)) rfl sc__law_row_line.nd (pi_anyK K rfl (pe_ix (ixK K rfl) (pv 0) pe_int (fun _ _ => rfl))) (blkOk_by (N := ["row", "walk", "k"]) (sc := defScope (topS 21)) (by decide +kernel)) (fun _ _ _ _ _ => (pg_name (i := 1) sc__law_row_line.nd rfl (by first | exact Or.inl rfl | exact Or.inr rfl))) (fun _ _ _ _ _ => pts_nil) (fun _ _ _ _ _ => (pe_joinK K rfl pe_str (pe_lc (own := [("k", 2)]) (g := (gName 2)) rfl sc__law_row_line.nd (pi_anyK K rfl (pv 1)) (blkOk_by (N := ["row", "walk", "k"]) (by rfl)) (fun _ _ _ _ _ => (pg_name (i := 2) sc__law_row_line.nd rfl (by first | exact Or.inl rfl | exact Or.inr rfl))) (fun _ _ _ _ _ => pts_nil) (fun _ _ _ _ _ => (pe_callTy call_str_int (by rfl) T.z_str (by decide +kernel) (pa_cons (pv 2) pa_nil))))))))))) pss_nil)
  (pss_one (ps_ret (pe_op (opAddK K rfl) (pe_op (opAddK K rfl) (pe_ix (ixK K rfl) (pv 0) pe_int (fun _ _ => rfl)) pe_str) (pe_joinK K rfl pe_str (pe_lc (own := [("k", 2)]) (g := (gName 2)) rfl sc__law_row_line.nd (pi_anyK K rfl (pe_ix (ixK K rfl) (pv 0) pe_int (fun _ _ => rfl))) (blkOk_by (N := ["row", "walk", "k"]) (sc := defScope (topS 21)) (by decide +kernel)) (fun _ _ _ _ _ => (pg_name (i := 2) sc__law_row_line.nd rfl (by first | exact Or.inl rfl | exact Or.inr rfl))) (fun _ _ _ _ _ => pts_nil) (fun _ _ _ _ _ => (pe_callTy call_str_int (by rfl) T.z_str (by decide +kernel) (pa_cons (pv 2) pa_nil)))))))))), ?_⟩
    obtain ⟨p, rest, rfl, hp⟩ := row_head hv
    have h0 : Val (tOp (rIx K) (tVar 0) (tC (.int 0))) [some (V.ref p), none, none] H (.str r.kind) := vx_t (val_var rfl) val_c hp (atI_nat (j := 0) rfl)
    -- ' '.join of the numbers of a walk
    have jn : ∀ {tl : TE} {j : Nat} {vs : List Nat} {σ : L2.St} {H1 : Hp} {qa : Addr} {ws : List Int} {Q' : VK}, Val tl σ H1 (.ref qa) → SqT K H1 qa (ws.map V.int) → wfW ws → (∀ x, wipe ((wipe σ vs).set j (some x)) vs = wipe σ vs) → (∀ x : V, ((wipe σ vs).set j (some x))[j]? = some (some x)) → (∀ H', Same H1 H' → Q' (.str (numbersText ws)) H') →
        tM1 (fun x xs H Q => ∃ a p ys, x = V.str a ∧ xs = [V.ref p] ∧ (SqL K H p (List.map V.str ys) ∨ SqT K H p (List.map V.str ys)) ∧ (ys.map Str.length).sum + ys.length * a.length ≤ 16777216 ∧ Q (V.str (Txt.join a ys)) H) (tC (.str " "))
          (tLc (iAny K tl) (gName j) tYes (tCB (fun xs H Q => ∃ i, xs = [V.int i] ∧ i.natAbs.log2 < 1920 ∧ Q (.str (toString i)) H) (tCons (tVar j) tNil)) vs) σ H1 Q' := by
      intro tl j vs σ H1 qa ws Q' htl hq hws hwp hget k
      refine un_m1 val_c ?_
      refine lc_seq (K := K) (xs := ws.map V.int) htl (.inr hq) (fun i y _ => ∃ n, ws[i]? = some n ∧ y = .str (fld n)) (fun _ _ _ _ _ h => h) (by rw [List.length_map]; have := hws.2.1; omega) ?_ ?_
      · rintro i x H' hx s
        rw [List.getElem?_map] at hx
        obtain ⟨n, en, rfl⟩ := Option.map_eq_some_iff.mp hx
        exact ⟨hwp _, fun Qy q => str_fld (hws.2.2 n (List.mem_of_getElem? en)) (val_var (hget _)) _ (q _ _ (Same.refl _) ⟨n, en, rfl⟩)⟩
      · intro D ys H' hD s hy hly hr
        exact join_nums (by decide +kernel) hws.2.2 (by have := hws.2.1; omega) hy (by rw [hly, List.length_map]) hr (k H' s)
    refine sq_ifR (r.kind = "split") (a_eqS h0 val_c) (fun h => ?_) (fun h => ?_)
    · cases r with
      | split a b =>
        obtain ⟨_, e, hp⟩ := hv
        cases e
        have h1 : Val (tOp (rIx K) (tVar 0) (tC (.int 1))) [some (V.ref p), none, none] H (.int a) := vx_t (val_var rfl) val_c hp (atI_nat (j := 1) rfl)
        have h2 : Val (tOp (rIx K) (tVar 0) (tC (.int 2))) [some (V.ref p), none, none] H (.int b) := vx_t (val_var rfl) val_c hp (atI_nat (j := 2) rfl)
        have l1 := fld_len hw.1
        have l2 := fld_len hw.2
        have e1 : (Str.ofString "split ").length = 6 := by decide +kernel
        have e2 : (Str.ofString " ").length = 1 := by decide +kernel
        refine v_cat (v_cat (v_cat val_c (str_fld hw.1 h1) (by omega)) val_c (by rw [app_len]; omega)) (str_fld hw.2 h2) (by rw [app_len, app_len]; omega) _ (q H (Same.refl _))
      | across ws => exact absurd (show kAcross = "split" from h) (by decide +kernel)
      | down ws => exact absurd (show kDown = "split" from h) (by decide +kernel)
      | pages ws => exact absurd (show kPages = "split" from h) (by decide +kernel)
    · refine sq_ifR (r.kind = "pages") (a_eqS h0 val_c) (fun h => ?_) (fun h => ?_)
      · cases r with
        | split a b => exact absurd (show kSplit = "pages" from h) (by decide +kernel)
        | across ws => exact absurd (show kAcross = "pages" from h) (by decide +kernel)
        | down ws => exact absurd (show kDown = "pages" from h) (by decide +kernel)
        | pages wss =>
          obtain ⟨_, qv, e, hp, pq, qs, rfl, hq, ha⟩ := hv
          cases e
          have h1 : Val (tOp (rIx K) (tVar 0) (tC (.int 1))) [some (V.ref p), none, none] H (.ref pq) := vx_t (val_var rfl) val_c hp (atI_nat (j := 1) rfl)
          have hwl : wss.length ≤ 10 := hw.2.1
          refine un_op (val_c _ (un_m1 val_c ?_))
          refine lc_seq (K := K) (xs := qs) h1 (.inr hq) (fun i y _ => ∃ n, wss[i]? = some n ∧ y = .str (numbersText n)) (fun _ _ _ _ _ h => h) (by rw [ha.1]; omega) ?_ ?_
          · intro j x H' hx s
            obtain ⟨ws, ew, qa, rfl, hqa⟩ := ha.getV hx
            have hw1 := hw.2.2 ws (List.mem_of_getElem? ew)
            exact ⟨rfl, fun Qy qy => jn (val_var rfl) (same_t s hqa) hw1 (fun _ => rfl) (fun _ => rfl) fun H4 s4 => qy _ _ s4 ⟨ws, ew, rfl⟩⟩
          · intro D ys H' hD s hy hly hr
            obtain ⟨j1, j2⟩ := join_texts (K := K) (g := numbersText) (sep := " / ") (B := 600) (by decide) (by decide +kernel) (fun ws hws => ntw_len (hw.2.2 ws hws)) (by omega) hy (by rw [hly, ha.1]) hr
            refine ⟨_, D, _, rfl, rfl, .inl j1, j2, ?_⟩
            refine .inr (.inl ⟨_, _, rfl, rfl, ?_, q H' s⟩)
            have h1 := join_len (sep := " / ") (l := wss.map numbersText) (B := 600) fun z hz => by
              obtain ⟨n, hn, rfl⟩ := List.mem_map.mp hz
              exact ntw_len (hw.2.2 n hn)
            rw [List.length_map] at h1
            have h3 : (Str.ofString "pages ").length = 6 := by decide +kernel
            have h4 : (Str.ofString " / ").length = 3 := by decide +kernel
            rw [h4] at h1
            exact sz_le (by omega)
      · obtain ⟨k, qv, ws, hp, ⟨qa, rfl, hqa⟩, hws, hk, e⟩ : ∃ (k : Str) (qv : V) (ws : List Int), SqT K H p [.str k, qv] ∧ NumsV K H qv ws ∧ wfW ws ∧ k.length ≤ 10 ∧ (k ++ SP ++ numbersText ws = printRow r) := by
          cases r with
          | split a b => exact absurd rfl ‹_›
          | pages a => exact absurd rfl h
          | across ws =>
            obtain ⟨_, qv, e, hp, hq⟩ := hv
            cases e
            exact ⟨_, _, ws, hp, hq, hw, by decide +kernel, rfl⟩
          | down ws =>
            obtain ⟨_, qv, e, hp, hq⟩ := hv
            cases e
            exact ⟨_, _, ws, hp, hq, hw, by decide +kernel, rfl⟩
        have h0 : Val (tOp (rIx K) (tVar 0) (tC (.int 0))) [some (V.ref p), none, none] H (.str k) := vx_t (val_var rfl) val_c hp (atI_nat (j := 0) rfl)
        have h1 : Val (tOp (rIx K) (tVar 0) (tC (.int 1))) [some (V.ref p), none, none] H (.ref qa) := vx_t (val_var rfl) val_c hp (atI_nat (j := 1) rfl)
        have ln := ntw_len hws
        have e2 : (Str.ofString " ").length = 1 := by decide +kernel
        refine un_ret (un_op (v_cat h0 val_c (by omega) _ (jn h1 hqa hws (fun _ => rfl) (fun _ => rfl) fun H4 s4 => .inr (.inl ⟨_, _, rfl, rfl, ?_, ?_⟩))))
        · rw [app_len]
          exact sz_le (by omega)
        · have := q H4 s4
          rw [← e] at this
          exact this
/-! ### -/
def spNumber : Sp := fun vs H Q _ => ∃ z : Str, vs = [.str z] ∧ z.length ≤ 100000 ∧ Q (if isNumber z then .int (numOf z) else .non) H
theorem sc__law_number : FnScope ["field", "sign"] ["field"] (defScope (topS 22)) := ⟨rfl, rfl, rfl, by decide +kernel, rfl, by decide +kernel, by decide +kernel⟩
theorem ok_number {f : Addr} {fd : FuncData} (F : Fun K "_law_number" "_law_number" (topS 22) f fd) (T : Txt mg) : FnOk P w K mg base (L2.CX P w) 1 f fd ["field"] spNumber := by
  refine F.okX sc__law_number (fun vs H Q E h => ?_) (fun cdv A outer s H vs Q E hr h => ?_)
  · obtain ⟨z, rfl, _⟩ := h
    rfl
  · obtain ⟨z, rfl, hz, q⟩ := h
    refine ⟨_, (pss_cons (ps_if (PW.pt (pw_or (pt_not (pt_chain op_le op_le pe_int (pe_callB (call_lenK K rfl) (by rfl) T.z_len PySem.boot_len (pa_cons (pv 0) pa_nil)) pe_int)) (pw_or1 (PW.pt (pw_and (pt_cmpR op_gt (pe_callB (call_lenK K rfl) (by rfl) T.z_len PySem.boot_len (pa_cons (pv 0) pa_nil)) pe_int (nomark _)) (pw_and1 (pt_cmpR opEq (pe_ix (ixK K rfl) (pv 0) pe_int (fun _ _ => rfl)) pe_str (nomark _)))))))) (pss_one (ps_ret pe_non)) pss_nil)
  (pss_cons (ps_for (passes_of rfl) rfl (pi_anyK K rfl (pv 0)) (pg_name (i := 1) sc__law_number.nd rfl (by first | exact Or.inl rfl | exact Or.inr rfl))
   (pss_one (ps_if (pt_cmpR (opNotInK K rfl) (pv 1) pe_str (by rfl)) (pss_one (ps_ret pe_non)) pss_nil)))
  (pss_one (ps_ret (pe_callTy call_intOf (by rfl) T.z_int (by decide +kernel) (pa_cons (pv 0) pa_nil)))))), ?_⟩
    have hv : Val (tVar 0) [some (V.str z), none] H (.str z) := val_var rfl
    have hl := vl_str (K := K) hv (by omega : z.length ≤ 16000000)
    have hsz : (tl z).length = z.length := (len_tl (x := z)).symm
    have bad : ∀ {H'}, isNumber z = false → H' = H → Q .non H' := fun e eH => by
      rw [e] at q
      rw [eH]
      exact q
    have zero : ∀ c : Nat, (⟨#[c]⟩ : Str) = "0" ↔ c = 48 := fun c => by
      constructor
      · intro e
        have : tl ⟨#[c]⟩ = tl (Str.ofString "0") := congrArg tl e
        have e4 : tl (Str.ofString "0") = [48] := by decide +kernel
        rw [e4] at this
        exact (List.cons.inj this).1
      · rintro rfl
        decide +kernel
    refine sq_ifR (¬ (1 ≤ z.length ∧ z.length ≤ 9) ∨ (1 < z.length ∧ (tl z)[0]? = some 48)) (Ans.or ((a_not (a_chain val_c hl val_c)).dec ?_) fun h => ?_) (fun h => ?_) (fun h => ?_)
    · rw [Bool.not_eq_true', Bool.and_eq_false_iff, decide_eq_false_iff_not, decide_eq_false_iff_not]
      omega
    · have h : 1 ≤ z.length ∧ z.length ≤ 9 := Classical.not_not.mp h
      obtain ⟨c, r, hcr⟩ : ∃ c r, tl z = c :: r := by
        cases e : tl z with
        | nil => rw [e] at hsz; simp at hsz; omega
        | cons c r => exact ⟨c, r, rfl⟩
      refine Ans.and ((a_gt hl val_c).dec ?_) fun _ => ?_
      · rw [decide_eq_true_eq]
        omega
      · have hx : Val (tOp (rIx K) (tVar 0) (tC (.int 0))) [some (V.str z), none] H (.str ⟨#[c]⟩) := vx_s hv val_c (by omega) (atI_nat (j := 0) (by
          show (tl z)[0]? = some c
          rw [hcr]
          rfl))
        refine (a_eqS hx val_c).dec ?_
        rw [decide_eq_true_eq, zero, hcr]
        exact ⟨fun e => by rw [e]; rfl, fun e => Option.some.inj e⟩
    · refine bad ?_ rfl
      unfold isNumber
      rcases h with h | h
      · rw [decide_eq_false (by omega)]
        rfl
      · have n1 : ¬ z.length = 1 := by omega
        simp [h.2, n1]
    · refine sq_for (.inr (.inr ⟨.str z, rfl, z, rfl, for_it walk_str (fun i σ H' => H' = H ∧ (∃ y, σ = [some (V.str z), y]) ∧ ((tl z).take i).all isDig = true) ⟨rfl, ⟨none, rfl⟩, rfl⟩ (fun _ _ _ _ _ => trivial) ?_ ?_⟩))
      · rintro i x σ H1 H2 hi ⟨rfl, ⟨y, rfl⟩, hd⟩ ⟨rfl, c, hc, rfl⟩
        have hc' : (tl z)[i]? = some c := by
          show z.cps.toList[i]? = some c
          rw [Array.getElem?_toList]
          exact hc
        have et : (tl z).take (i + 1) = (tl z).take i ++ [c] := by
          rw [List.take_add_one, hc']
          rfl
        refine st_ifB (!isDig c) ?_ (fun h => ?_) (fun h => ?_)
        · exact (a_t (v_notIn (val_var rfl) val_c)).to' (by rw [isDig_in])
        · refine bad ?_ rfl
          unfold isNumber
          have : (tl z).all isDig = false := by
            rw [List.all_eq_false]
            exact ⟨c, List.mem_of_getElem? hc', by simpa using h⟩
          rw [this, Bool.and_false, Bool.false_and]
        · refine ⟨rfl, ⟨_, rfl⟩, ?_⟩
          rw [et, List.all_append, hd]
          simpa using h
      · rintro σ H1 ⟨rfl, ⟨y, rfl⟩, hd⟩
        rw [List.take_of_length_le (by show (tl z).length ≤ z.length; omega)] at hd
        have e : isNumber z = true := by
          have h1 : 1 ≤ z.length ∧ z.length ≤ 9 := Classical.not_not.mp fun x => h (.inl x)
          unfold isNumber
          rw [decide_eq_true (by omega), hd]
          by_cases c1 : z.length = 1
          · rw [decide_eq_true c1]
            rfl
          · rw [decide_eq_true (show (tl z)[0]? ≠ some 48 from fun e => h (.inr ⟨by omega, e⟩)), Bool.or_true]
            rfl
        rw [e] at q
        exact v_intS (val_var rfl) (intText_number e) (by have := isNumber_facts e; omega) _ q
end
end K54

namespace K54
open PySem PySem.Spec PyProof.Rows TL L2 L3
section
variable {K : PySem.W.Frag} {H : Hp}
theorem dp_ints : ∀ ns : List Int, DpAll K H (ns.map V.int) (ns.map PyData.int)
  | [] => .nil
  | n :: ns => .cons (.int n) (dp_ints ns)
theorem dp_strs : ∀ zs : List Str, DpAll K H (zs.map V.str) (zs.map PyData.str)
  | [] => .nil
  | z :: zs => .cons (.str z) (dp_strs zs)
theorem flat_ints : ∀ ns : List Int, PyData.canLayAll0 (ns.map PyData.int) = true ∧ PyData.depthAll (ns.map PyData.int) = 0
  | [] => ⟨by simp [PyData.canLayAll0], by simp [PyData.depthAll]⟩
  | n :: ns => by
    obtain ⟨a, b⟩ := flat_ints ns
    constructor
    · simp [PyData.canLayAll0, PyData.canLay0, a]
    · simp [PyData.depthAll, PyData.depth, b]
def ItemN (K : PySem.W.Frag) (H : Hp) (y : V) : Prop := y = .non ∨ (∃ n, y = .int n) ∨ ∃ (p : Addr) (ns : List Int), y = .ref p ∧ SqT K H p (ns.map V.int)
theorem none_in : ∀ {ys : List V}, (∀ y ∈ ys, ItemN K H y) → ∃ ds, DpAll K H ys ds ∧ PyData.canLayAll0 ds = true ∧ PyData.depthAll ds ≤ 1 ∧ (ds.any fun z => PyData.eqv z .none) = decide (V.non ∈ ys)
  | [], _ => ⟨[], .nil, by simp [PyData.canLayAll0], by simp [PyData.depthAll], by simp⟩
  | y :: ys, h => by
    obtain ⟨ds, h1, h2, h3, h4⟩ := none_in (ys := ys) fun z hz => h z (List.mem_cons_of_mem _ hz)
    rcases h y (by simp) with rfl | ⟨n, rfl⟩ | ⟨p, ns, rfl, hp⟩
    · refine ⟨.none :: ds, .cons .non h1, by simp [PyData.canLayAll0, PyData.canLay0, h2], by simp [PyData.depthAll, PyData.depth, h3], ?_⟩
      simp [PyData.eqv]
    · refine ⟨.int n :: ds, .cons (.int n) h1, by simp [PyData.canLayAll0, PyData.canLay0, h2], by simp [PyData.depthAll, PyData.depth, h3], ?_⟩
      rw [List.any_cons, h4]
      simp [PyData.eqv]
    · obtain ⟨a, b⟩ := flat_ints ns
      refine ⟨.tuple (ns.map .int) :: ds, .cons (.tup hp (dp_ints ns)) h1, by simp [PyData.canLayAll0, PyData.canLay0, h2, a], by simp [PyData.depthAll, PyData.depth, h3, b], ?_⟩
      rw [List.any_cons, h4]
      simp [PyData.eqv]
theorem a_noneIn {te : TE} {σ : L2.St} {a : Addr} {ys : List V} (h : Val te σ H (.ref a)) (hL : SqL K H a ys) (hi : ∀ y ∈ ys, ItemN K H y) : Ans (tTest (tOp (rInD K) (tC .non) te)) σ H (decide (V.non ∈ ys)) := by
  obtain ⟨ds, h1, h2, h3, h4⟩ := none_in hi
  refine a_t fun Q q => h _ ⟨.none, ds, .non, .lst hL h1, ?_, ?_, ?_⟩
  · simp [SeqAt.shaped, PyData.canLay0, PyData.depth]
  · simp only [SeqAt.shaped, PyData.canLay0, PyData.depth, h2, Bool.true_and]
    exact decide_eq_true (by omega)
  · rw [h4]
    exact q
end
section
variable {P : Program} {w : World} {K : PySem.W.Frag} {mg : Str → Option Value} {base : Heap}
def spWalk (K : PySem.W.Frag) : Sp := fun vs H Q _ => ∃ (p : Addr) (zs : List Str), vs = [.ref p] ∧ SqL K H p (zs.map V.str) ∧ (∀ z ∈ zs, z.length ≤ 100000) ∧ zs.length ≤ 200000 ∧
  (∀ ns, readNumbers zs = some ns → ∀ v H', Same H H' → NumsV K H' v ns → Q v H') ∧ (readNumbers zs = none → ∀ H', Same H H' → Q .non H')
theorem sc__law_walk : FnScope ["fields", "walk", "field"] ["fields"] (defScope (topS 23)) := ⟨rfl, rfl, rfl, by decide +kernel, rfl, by decide +kernel, by decide +kernel⟩
theorem ok_walk {f : Addr} {fd : FuncData} (F : Fun K "_law_walk" "_law_walk" (topS 23) f fd) (T : Txt mg) {f1 : Addr} {d1 : FuncData} (G__law_number : Cal P w K mg base 1 "_law_number" ["field"] spNumber f1 d1) :
    FnOk P w K mg base (L2.CX P w) 2 f fd ["fields"] (spWalk K) := by
  refine F.okX sc__law_walk (fun vs H Q E h => ?_) (fun cdv A outer s H vs Q E hr h => ?_)
  · obtain ⟨p, zs, rfl, _⟩ := h
    rfl
  · obtain ⟨p, zs, rfl, hp, hz, hl, q1, q2⟩ := h
    refine ⟨_, (pss_cons (ps_setLc (i := 1) (own := [("field", 2)]) (g := (gName 2)) rfl sc__law_walk.nd rfl rfl (sw_true rfl rfl rfl (by decide +kernel)) (pi_anyK K rfl (pv 0)) (blkOk_by (N := ["fields", "walk", "field"]) (sc := defScope (topS 23)) (by decide +kernel)) (fun _ _ _ _ _ => (pg_name (i := 2) sc__law_walk.nd rfl (by first | exact Or.inl rfl | exact Or.inr rfl))) (fun _ _ _ _ _ => pts_nil) (fun _ _ _ _ _ => (pe_call G__law_number.ok (hr.mono (by first | decide | exact Nat.le_refl _)) rfl G__law_number.mg G__law_number.kp G__law_number.bi .nil passL (pa_cons (pv 2) pa_nil))))
  (pss_cons (ps_if (PW.pt (pw_or (pt_cmpR opEq (pe_callB (call_lenK K rfl) (by rfl) T.z_len PySem.boot_len (pa_cons (pv 1) pa_nil)) pe_int (nomark _)) (pw_or1 (pt_cmpR (opInDK K rfl hr) pe_non (pv 1) (by rfl))))) (pss_one (ps_ret pe_non)) pss_nil)
  (pss_one (ps_ret (pe_callTy (call_tupleK K rfl) (by rfl) T.z_tuple (by decide +kernel) (pa_cons (pv 1) pa_nil)))))), ?_⟩
    refine sq_asg ?_
    refine lc_seq (K := K) (xs := zs.map V.str) (val_var rfl) (.inl hp) (fun i y _ => ∃ z, zs[i]? = some z ∧ y = if isNumber z then .int (numOf z) else .non) (fun _ _ _ _ _ h => h) (by rw [List.length_map]; omega) ?_ ?_
    · rintro i x H' hx s
      rw [List.getElem?_map] at hx
      obtain ⟨z, ez, rfl⟩ := Option.map_eq_some_iff.mp hx
      exact ⟨rfl, fun Qy q => ⟨_, rfl, z, rfl, hz z (List.mem_of_getElem? ez), q _ _ (Same.refl _) ⟨z, ez, rfl⟩⟩⟩
    · intro D ys H1 hD s hy hly hr
      rw [List.length_map] at hly
      have hL : SqL K H1 D ys := .inl (.inl hy)
      have items : ∀ y ∈ ys, ItemN K H1 y := by
        intro y hy
        obtain ⟨i, hi⟩ := List.mem_iff_getElem?.mp hy
        obtain ⟨z, _, e⟩ := hr i y hi
        rw [e]
        split
        · exact .inr (.inl ⟨_, rfl⟩)
        · exact .inl rfl
      refine sq_ifR (ys = [] ∨ V.non ∈ ys) (Ans.or ((a_eqI (vl_l (val_var rfl) hL) val_c).dec ?_) fun _ => a_noneIn (val_var rfl) hL items) (fun h => ?_) (fun h => ?_)
      · rw [decide_eq_true_eq]
        constructor
        · intro e
          exact List.length_eq_zero_iff.mp (by omega)
        · rintro rfl
          rfl
      · refine q2 ?_ H1 s
        rcases h with rfl | h
        · have : zs = [] := List.length_eq_zero_iff.mp hly.symm
          rw [this]
          rfl
        · obtain ⟨i, hi⟩ := List.mem_iff_getElem?.mp h
          obtain ⟨z, ez, e⟩ := hr i _ hi
          refine readNumbers_none (List.mem_of_getElem? ez) ?_
          cases hn : isNumber z with
          | false => rfl
          | true =>
            rw [hn] at e
            cases e
      · have hb : ∀ z ∈ zs, isNumber z = true := by
          intro z hz
          obtain ⟨j, hj⟩ := List.mem_iff_getElem?.mp hz
          have hlt : j < ys.length := by
            rw [hly]
            exact (List.getElem?_eq_some_iff.mp hj).1
          obtain ⟨z', ez, e⟩ := hr j _ (List.getElem?_eq_getElem hlt)
          rw [hj] at ez
          cases Option.some.inj ez
          cases hn : isNumber z with
          | true => rfl
          | false =>
            rw [hn] at e
            exact absurd (.inr (by rw [← show ys[j] = V.non from e]; exact List.getElem_mem hlt)) h
        have ey : ys = (zs.map numOf).map V.int := by
          rw [List.map_map]
          refine map_by_place hly fun j v hv => ?_
          obtain ⟨z, ez, e⟩ := hr j v hv
          rw [hb z (List.mem_of_getElem? ez)] at e
          exact ⟨z, ez, e⟩
        have hne : zs ≠ [] := by
          rintro rfl
          exact h (.inl (List.length_eq_zero_iff.mp hly))
        refine un_ret (un_cb1 (val_var rfl _ ⟨D, ys, rfl, .inl ⟨hL, fun l hl => ?_⟩⟩))
        refine q1 _ (readNumbers_some hne hb) _ _ (s.trans (same_new hl)) ⟨l, rfl, ?_⟩
        rw [← ey]
        exact sqt_new
/-! ### -/
theorem gi_slice {H1 : Hp} {p1 g p : Addr} {o : HO} (h1 : H1 p1 = none) (h2 : upd H1 p1 (.lst []) g = none) (h3 : upd (upd H1 p1 (.lst [])) g (.lst [.ref p1]) p = none) :
    Same (upd H1 p o) (upd (upd (upd H1 p1 (.lst [])) g (.lst [.ref p1])) p o) ∧ GI (upd H1 p o) g (upd (upd (upd H1 p1 (.lst [])) g (.lst [.ref p1])) p o) [[]] ∧ upd H1 p o g = none ∧ Same H1 (upd H1 p o) := by
  obtain ⟨⟨gs, gg, qs, q, _, e1, e2, n1, e3, _⟩, s⟩ := gi_start h1 h2
  have hgp1 : g ≠ p1 := fun e => by
    rw [e, upd_same] at h2
    cases h2
  have hgp : g ≠ p := fun e => by
    rw [← e, upd_same] at h3
    cases h3
  have hp1p : p1 ≠ p := fun e => by
    rw [← e, upd_ne hgp1.symm, upd_same] at h3
    cases h3
  have h1g : H1 g = none := by
    rw [upd_ne hgp1] at h2
    exact h2
  have h1p : H1 p = none := s.free h3
  refine ⟨fun b u hb => ?_, ⟨[], [], [], p1, rfl, ?_, ?_, hgp1.symm, ?_, All2.nil⟩, ?_, same_new h1p⟩
  · by_cases e : b = p
    · rw [e, upd_same] at hb ⊢
      exact hb
    · rw [upd_ne e] at hb ⊢
      exact s b u hb
  · rw [upd_ne hgp, upd_same]
    rfl
  · rw [upd_ne hp1p, upd_ne hgp1.symm, upd_same]
    rfl
  · rw [upd_ne hp1p]
    exact h1
  · rw [upd_ne hgp]
    exact h1g
def spRow (K : PySem.W.Frag) : Sp := fun vs H Q _ => ∃ z : Str, vs = [.str z] ∧ z.length ≤ 100000 ∧ (∀ r, parseRow z = some r → ∀ v H', Same H H' → RowV K H' v r → Q v H') ∧ (parseRow z = none → ∀ H', Same H H' → Q .non H')
theorem sc__law_row : FnScope ["line", "fields", "groups", "field", "walks", "group", "walk"] ["line"] (defScope (topS 24)) := ⟨rfl, rfl, rfl, by decide +kernel, rfl, by decide +kernel, by decide +kernel⟩
def spl2 : List Str → Option Row
  | [a, b] => if isNumber a && isNumber b then some (.split (numOf a) (numOf b)) else none
  | _ => none
theorem spl2_yes {x y : Str} (hx : isNumber x = true) (hy : isNumber y = true) : spl2 [x, y] = some (.split (numOf x) (numOf y)) := by
  unfold spl2
  simp [hx, hy]
theorem parse_cons {z k : Str} {r : List Str} (ef : fieldsOf z = k :: r) : parseRow z =
    if k = kSplit then spl2 r
    else if k = kAcross then (readNumbers r).map .across
    else if k = kDown then (readNumbers r).map .down
    else if k = kPages then (readWalks r).map .pages
    else none := by
  unfold parseRow
  rw [ef]
  match r with
  | [] => rfl
  | [_] => rfl
  | [_, _] => rfl
  | _ :: _ :: _ :: _ => rfl
theorem ok_row {f : Addr} {fd : FuncData} (F : Fun K "_law_row" "_law_row" (topS 24) f fd) (T : Txt mg) {f1 : Addr} {d1 : FuncData} (G__law_walk : Cal P w K mg base 2 "_law_walk" ["fields"] (spWalk K) f1 d1) :
    FnOk P w K mg base (L2.CX P w) 3 f fd ["line"] (spRow K) := by
  refine F.okX sc__law_row (fun vs H Q E h => ?_) (fun cdv A outer s H vs Q E hr h => ?_)
  · obtain ⟨z, rfl, _⟩ := h
    rfl
  · obtain ⟨z, rfl, hz, q1, q2⟩ := h
    refine ⟨_, (pss_cons (ps_set (i := 1) sc__law_row.nd rfl (by first | exact Or.inl rfl | exact Or.inr rfl) (pe_split (pv 0) pe_str))
  (pss_cons (ps_if (pt_cmpR opEq (pe_ix (ixK K rfl) (pv 1) pe_int (fun _ _ => rfl)) pe_str (nomark _)) (pss_cons (ps_set (i := 2) sc__law_row.nd rfl (by first | exact Or.inl rfl | exact Or.inr rfl) (pe_lst (pa_cons (pe_lst pa_nil) pa_nil)))
  (pss_cons (ps_for (passes_of rfl) rfl (pi_anyK K rfl (pe_slice (slAnyK K rfl) (pv 1) (po_some pe_int) po_none)) (pg_name (i := 3) sc__law_row.nd rfl (by first | exact Or.inl rfl | exact Or.inr rfl))
   (pss_one (ps_if (pt_cmpR opEq (pv 3) pe_str (nomark _)) (pss_one (ps_expr (pe_appendK K rfl (pv 2) (pa_cons (pe_lst pa_nil) pa_nil)))) (pss_one (ps_expr (pe_appendK K rfl (pe_ix (ixK K rfl) (pv 2) (pe_un un_neg pe_int) (fun _ _ => rfl)) (pa_cons (pv 3) pa_nil)))))))
  (pss_cons (ps_setLc (i := 4) (own := [("group", 5)]) (g := (gName 5)) rfl sc__law_row.nd rfl rfl (sw_true rfl rfl rfl (by decide +kernel)) (pi_anyK K rfl (pv 2)) (blkOk_by (N := ["line", "fields", "groups", "field", "walks", "group", "walk"]) (sc := defScope (topS 24)) (by decide +kernel)) (fun _ _ _ _ _ => (pg_name (i := 5) sc__law_row.nd rfl (by first | exact Or.inl rfl | exact Or.inr rfl))) (fun _ _ _ _ _ => pts_nil) (fun _ _ _ _ _ => (pe_call G__law_walk.ok (hr.mono (by first | decide | exact Nat.le_refl _)) rfl G__law_walk.mg G__law_walk.kp G__law_walk.bi .nil passL (pa_cons (pv 5) pa_nil))))
  (pss_one (ps_ret (pe_ifExp (pt_cmpR (opInDK K rfl hr) pe_non (pv 4) (by rfl)) pe_non (pe_tup (pa_str (pa_cons (pe_callTy (call_tupleK K rfl) (by rfl) T.z_tuple (by decide +kernel) (pa_cons (pv 4) pa_nil)) pa_nil))))))))) pss_nil)
  (pss_cons (ps_set (i := 6) sc__law_row.nd rfl (by first | exact Or.inl rfl | exact Or.inr rfl) (pe_call G__law_walk.ok (hr.mono (by first | decide | exact Nat.le_refl _)) rfl G__law_walk.mg G__law_walk.kp G__law_walk.bi .nil passL (pa_cons (pe_slice (slAnyK K rfl) (pv 1) (po_some pe_int) po_none) pa_nil)))
  (pss_cons (ps_if (PW.pt (pw_or (pt_cmpR opIs (pv 6) pe_non (nomark _)) (pw_or1 (pt_cmpR (opNotInK K rfl) (pe_ix (ixK K rfl) (pv 1) pe_int (fun _ _ => rfl)) (pe_tup (pa_str (pa_str (pa_str pa_nil)))) (by rfl))))) (pss_one (ps_ret pe_non)) pss_nil)
  (pss_cons (ps_if (pt_cmpR opEq (pe_ix (ixK K rfl) (pv 1) pe_int (fun _ _ => rfl)) pe_str (nomark _)) (pss_one (ps_ret (pe_ifExp (pt_cmpR opEq (pe_callB (call_lenK K rfl) (by rfl) T.z_len PySem.boot_len (pa_cons (pv 6) pa_nil)) pe_int (nomark _)) (pe_tup (pa_str (pa_cons (pe_ix (ixK K rfl) (pv 6) pe_int (fun _ _ => rfl)) (pa_cons (pe_ix (ixK K rfl) (pv 6) pe_int (fun _ _ => rfl)) pa_nil)))) pe_non))) pss_nil)
  (pss_one (ps_ret (pe_tup (pa_cons (pe_ix (ixK K rfl) (pv 1) pe_int (fun _ _ => rfl)) (pa_cons (pv 6) pa_nil)))))))))), ?_⟩
    refine sq_asg (un_m1 (val_var rfl) ⟨z, " ", rfl, rfl, by decide +kernel, sz_le (by omega), fun a ha => ?_⟩)
    have s0 : Same H (upd H a (.lst ((Txt.split z (Str.ofString " ")).map V.str))) := same_new ha
    have hL : SqL K (upd H a (.lst ((Txt.split z (Str.ofString " ")).map V.str))) a ((fieldsOf z).map V.str) := sql_new
    generalize upd H a (.lst ((Txt.split z (Str.ofString " ")).map V.str)) = H1 at s0 hL ⊢
    obtain ⟨k, r, ef⟩ : ∃ k r, fieldsOf z = k :: r := by
      cases e : fieldsOf z with
      | nil => exact absurd e (fields_ne z)
      | cons k r => exact ⟨k, r, rfl⟩
    have hfl : ∀ x ∈ k :: r, x.length ≤ 100000 := fun x hx => Nat.le_trans (field_len (z := z) (by rw [ef]; exact hx)) hz
    have hfn := fields_len z
    rw [ef] at hL hfn
    rw [List.length_cons] at hfn
    have ep := parse_cons ef
    have v1 : ∀ {H' : Hp} {y2 y3 y4 y5 y6 : Option V}, Val (tVar 1) [some (V.str z), some (V.ref a), y2, y3, y4, y5, y6] H' (.ref a) := val_var rfl
    have x0 : ∀ {H' : Hp} {y2 y3 y4 y5 y6 : Option V}, Same H1 H' → Val (tOp (rIx K) (tVar 1) (tC (.int 0))) [some (V.str z), some (V.ref a), y2, y3, y4, y5, y6] H' (.str k) := fun s => vx_l v1 val_c (same_l s hL) (atI_nat (j := 0) rfl)
    refine sq_if (k = "pages") (a_eqS (x0 (Same.refl _)) val_c) (fun h => ?_) (fun h => ?_)
    · have em : parseRow z = (readWalks r).map .pages := by
        rw [ep, show k = kPages from h, if_neg (by decide +kernel), if_neg (by decide +kernel), if_neg (by decide +kernel), if_pos rfl]
      refine sq_asg ⟨Nat.zero_le _, fun p1 hp1 => ⟨by show 1 ≤ sizeLine; decide, fun g hg => ?_⟩⟩
      refine sq_for (.inl (sl_1 v1 (same_l ((same_new hp1).trans (same_new hg)) hL) fun p hp => ?_))
      obtain ⟨sB, gI, gN, sA⟩ := gi_slice (o := .lst (r.map V.str)) hp1 hg hp
      refine ⟨p, rfl, ⟨_, sql_new⟩, group_core (K := K) (iW := 2) (iF := 3) (H0 := upd H1 p (.lst (r.map V.str))) (l := p) (zs := r) (by decide) (by show 3 < 7; decide) sql_new (by omega) rfl rfl gN sB gI fun y H2 s2 g2 => ?_⟩
      dsimp only
      have s02 : Same H H2 := (s0.trans sA).trans s2
      obtain ⟨qs, ea, hq⟩ := g2.all (K := K)
      have bd := groups_bd r
      refine sq_asg ?_
      refine lc_seq (K := K) (xs := qs) (p := g) (val_var rfl) (.inl (.inl (.inl ea))) (fun i y H => ∃ g, (groups r)[i]? = some g ∧ ((∃ ns, readNumbers g = some ns ∧ NumsV K H y ns) ∨ (readNumbers g = none ∧ y = .non)))
        (fun _ _ _ _ t ⟨g, e1, e2⟩ => ⟨g, e1, e2.imp (fun ⟨ns, a, b⟩ => ⟨ns, a, b.mono t⟩) id⟩) (by rw [hq.1]; have := bd.1; omega) ?_ ?_
      · intro j x H3 hx s3
        obtain ⟨gr, eg, q, rfl, hs⟩ := hq.getV hx
        have bg := bd.2 gr (List.mem_of_getElem? eg)
        refine ⟨rfl, fun Qy qy => ⟨_, rfl, q, gr, rfl, same_l s3 hs, fun z h => hfl z (List.mem_cons_of_mem _ (bg.2 z h)), by omega, fun ns en v H4 s4 hn => qy v H4 s4 ⟨gr, eg, .inl ⟨ns, en, hn⟩⟩, fun en H4 s4 => qy _ H4 s4 ⟨gr, eg, .inr ⟨en, rfl⟩⟩⟩⟩
      · intro D ys H3 hD s3 hy hly hr
        have hL3 : SqL K H3 D ys := .inl (.inl hy)
        have items : ∀ y ∈ ys, ItemN K H3 y := by
          intro y hy
          obtain ⟨i, hi⟩ := List.mem_iff_getElem?.mp hy
          obtain ⟨gr, _, ⟨ns, _, t, e, ht⟩ | ⟨_, e⟩⟩ := hr i y hi
          · exact .inr (.inr ⟨t, ns, e, ht⟩)
          · exact .inl e
        refine un_ret (un_if (V.non ∈ ys) (a_noneIn (val_var rfl) hL3 items) (fun hn => ?_) (fun hn => ?_))
        · refine q2 ?_ H3 (s02.trans s3)
          obtain ⟨i, hi⟩ := List.mem_iff_getElem?.mp hn
          obtain ⟨gr, eg, ⟨ns, _, t, e, ht⟩ | ⟨en, e⟩⟩ := hr i _ hi
          · cases e
          · rw [em]
            unfold readWalks
            rw [allSome_none (List.mem_map.mpr ⟨gr, List.mem_of_getElem? eg, en⟩)]
            rfl
        · have hall : ∀ gr ∈ groups r, readNumbers gr ≠ none := by
            intro gr hgr en
            obtain ⟨j, hj⟩ := List.mem_iff_getElem?.mp hgr
            have hlt : j < ys.length := by
              rw [hly, hq.1]
              exact (List.getElem?_eq_some_iff.mp hj).1
            obtain ⟨g', e1, ⟨ns, e2, _⟩ | ⟨_, e⟩⟩ := hr j _ (List.getElem?_eq_getElem hlt)
            · rw [hj] at e1
              cases Option.some.inj e1
              rw [en] at e2
              cases e2
            · exact hn (by rw [← e]; exact List.getElem_mem hlt)
          obtain ⟨wss, e1, e2, e3⟩ := allSome_all hall
          refine un_tup (ta_val val_c (ta_un (un_cb1 (val_var rfl _ ⟨D, ys, rfl, .inl ⟨hL3, fun l hl => ⟨by show 2 ≤ sizeLine; decide, fun r2 hr2 => ?_⟩⟩⟩))))
          refine q1 (.pages wss) (by rw [em]; unfold readWalks; rw [e1]; rfl) _ _ (((s02.trans s3).trans (same_new hl)).trans (same_new hr2)) ⟨_, _, rfl, sqt_new, l, ys, rfl, same_t (same_new hr2) sqt_new, by rw [hly, hq.1, e2], fun j v ws hv hw => ?_⟩
          obtain ⟨gr, e4, ⟨ns, e5, hn2⟩ | ⟨e5, _⟩⟩ := hr j v hv
          · obtain ⟨ns', e6, e7⟩ := e3 j gr e4
            rw [hw] at e6
            cases Option.some.inj e6
            rw [e5] at e7
            cases Option.some.inj e7
            exact hn2.mono (tsm_same ((same_new hl).trans (same_new hr2)))
          · exact absurd e5 (hall gr (List.mem_of_getElem? e4))
    · refine un_next ?_
      dsimp only
      have em : k ≠ kSplit → k ≠ kAcross → k ≠ kDown → parseRow z = none := fun n1 n2 n3 => by
        rw [ep, if_neg n1, if_neg n2, if_neg n3, if_neg (show ¬ k = kPages from h)]
      refine sq_asg (sl_1 v1 hL fun p hp => ⟨p, r, rfl, sql_new, fun x hx => hfl x (by simp [hx]), by omega, fun ns en v H2 s2 hn => ?_, fun en H2 s2 => ?_⟩)
      · have s12 : Same H1 H2 := (same_new hp).trans s2
        obtain ⟨t, rfl, ht⟩ := hn
        refine sq_ifRS (V.ref t = .non ∨ ¬ (k = "split" ∨ k = "across" ∨ k = "down")) (AnsS.or (a_isN (val_var rfl)) fun _ => a_notIn3 (x0 s12)) (fun hb H3 s3 => ?_) (fun hb H3 s3 => ?_)
        · rcases hb with hb | hb
          · cases hb
          · exact q2 (em (fun e => hb (.inl e)) (fun e => hb (.inr (.inl e))) (fun e => hb (.inr (.inr e)))) H3 ((s0.trans s12).trans s3)
        · have hk : k = "split" ∨ k = "across" ∨ k = "down" := Classical.not_not.mp fun x => hb (.inr x)
          have s13 : Same H1 H3 := s12.trans s3
          have ht3 := same_t s3 ht
          refine sq_ifR (k = "split") (a_eqS (x0 s13) val_c) (fun h2 => ?_) (fun h2 => ?_)
          · have es : parseRow z = spl2 r := by
              rw [ep, if_pos (show k = kSplit from h2)]
            refine un_if (ns.length = 2) ((a_eqI (vl_t (val_var rfl) ht3) val_c).dec ?_) (fun h3 => ?_) (fun h3 => ?_)
            · rw [decide_eq_true_eq, List.length_map]
              omega
            · obtain ⟨n1, n2, rfl⟩ : ∃ n1 n2, ns = [n1, n2] := by
                match ns, h3 with
                | [x, y], _ => exact ⟨x, y, rfl⟩
              have er : ∃ x y, r = [x, y] ∧ isNumber x = true ∧ isNumber y = true ∧ n1 = numOf x ∧ n2 = numOf y := by
                unfold readNumbers at en
                split at en
                · cases en
                · split at en
                  · rename_i hall
                    match r, Option.some.inj en, hall with
                    | [x, y], e, hall =>
                      have e1 : numOf x = n1 := (List.cons.inj e).1
                      have e2 : numOf y = n2 := (List.cons.inj (List.cons.inj e).2).1
                      have e3 : isNumber x = true ∧ isNumber y = true := by simpa using hall
                      exact ⟨x, y, rfl, e3.1, e3.2, e1.symm, e2.symm⟩
                  · cases en
              obtain ⟨x, y, rfl, hx, hy, rfl, rfl⟩ := er
              refine un_tup (ta_val val_c (ta_val (vx_t (val_var rfl) val_c ht3 (atI_nat (j := 0) rfl)) (ta_val (vx_t (val_var rfl) val_c ht3 (atI_nat (j := 1) rfl)) ⟨by show 3 ≤ sizeLine; decide, fun r2 hr2 => ?_⟩)))
              exact q1 (.split (numOf x) (numOf y)) (by rw [es]; exact spl2_yes hx hy) _ _ ((s0.trans s13).trans (same_new hr2)) ⟨_, rfl, sqt_new⟩
            · refine q2 ?_ H3 (s0.trans s13)
              rw [es]
              have hl2 : r.length ≠ 2 := by
                intro e
                unfold readNumbers at en
                split at en
                · cases en
                · split at en
                  · rw [← Option.some.inj en, List.length_map] at h3
                    exact h3 e
                  · cases en
              clear es ep hL ef hfl hfn en s2 s12 s13
              match r with
              | [] => rfl
              | [_] => rfl
              | [_, _] => exact absurd rfl hl2
              | _ :: _ :: _ :: _ => rfl
          · have key : ∃ mk : List Int → Row, parseRow z = (readNumbers r).map mk ∧ ∀ {H' : Hp} {p : Addr} {v : V} {ns : List Int}, SqT K H' p [.str k, v] → NumsV K H' v ns → RowV K H' (.ref p) (mk ns) := by
              rcases hk with e | rfl | rfl
              · exact absurd e h2
              · refine ⟨.across, ?_, fun hp hn => ⟨_, _, rfl, hp, hn⟩⟩
                rw [ep, if_neg (by decide +kernel), if_pos (show Str.ofString "across" = kAcross from rfl)]
              · refine ⟨.down, ?_, fun hp hn => ⟨_, _, rfl, hp, hn⟩⟩
                rw [ep, if_neg (by decide +kernel), if_neg (by decide +kernel), if_pos (show Str.ofString "down" = kDown from rfl)]
            obtain ⟨mk, e1, hm⟩ := key
            refine un_ret (un_tup (ta_val (x0 s13) (ta_val (val_var rfl) ⟨by show 2 ≤ sizeLine; decide, fun r2 hr2 => ?_⟩)))
            exact q1 (mk ns) (by rw [e1, en]; rfl) _ _ ((s0.trans s13).trans (same_new hr2)) (hm sqt_new ⟨t, rfl, same_t (same_new hr2) ht3⟩)
      · have s12 : Same H1 H2 := (same_new hp).trans s2
        refine sq_ifRS (V.non = .non ∨ ¬ (k = "split" ∨ k = "across" ∨ k = "down")) (AnsS.or (a_isN (val_var rfl)) fun _ => a_notIn3 (x0 s12)) (fun hb H3 s3 => ?_) (fun hb H3 s3 => absurd (.inl rfl) hb)
        refine q2 ?_ H3 ((s0.trans s12).trans s3)
        rw [ep]
        split
        · clear ep hL ef hfl hfn s2 s12
          match r, en with
          | [], _ => rfl
          | [_], _ => rfl
          | [x, y], en =>
            rw [readNumbers_two] at en
            show (if (isNumber x && isNumber y) = true then _ else none) = none
            split at en
            · cases en
            · rename_i hh
              exact if_neg hh
          | _ :: _ :: _ :: _, _ => rfl
        · split
          · rw [en]; rfl
          · split
            · rw [en]; rfl
            · rw [if_neg (show ¬ k = kPages from h)]
end
end K54

namespace K54
open PySem PySem.Spec PyProof.Rows TL L2 L3
section
variable {P : Program} {w : World} {K : PySem.W.Frag} {mg : Str → Option Value} {base : Heap}
theorem join_sum {sep : Str} : ∀ (l : List Str), (Txt.join sep l).length ≤ (l.map Str.length).sum + l.length * sep.length
  | [] => by
    rw [join_eq]
    exact Nat.zero_le _
  | [x] => by
    rw [join_eq]
    show x.length ≤ _
    simp
  | x :: y :: r => by
    have ih := join_sum (sep := sep) (y :: r)
    rw [join_eq] at ih ⊢
    rw [join_cons sep x (by simp), app_len, app_len, List.map_cons, List.sum_cons, List.length_cons, Nat.succ_mul]
    omega
def words12 : List Str := ["up", "page", "paper", "end", "spilt", "downs", "acros", "xs", "", "SPLIT", "Down", "none"].map Str.ofString
def kinds4 : List Str := ["split", "across", "down", "pages"].map Str.ofString
def ends4 : List Str := [" 7", " /", " / 7", " / / 7"].map Str.ofString
def tails13 (la : Str) : List Str := [Str.ofString "0" ++ la, "1000000000", "-1", "+1", la ++ Str.ofString "a", "00", "1.0", "1_0", "0x1", "1e3", "", "/", la ++ Str.ofString "/"]
abbrev rJoin (K : PySem.W.Frag) : V → List V → Hp → VK → Prop := fun x xs H Q => ∃ a p ys, x = V.str a ∧ xs = [V.ref p] ∧ (SqL K H p (List.map V.str ys) ∨ SqT K H p (List.map V.str ys)) ∧ (ys.map Str.length).sum + ys.length * a.length ≤ 16777216 ∧ Q (V.str (Txt.join a ys)) H
theorem join_any {H : Hp} {p : Addr} {ys : List Str} {Q : VK} (h : SqL K H p (ys.map V.str)) (hz : (ys.map Str.length).sum + ys.length ≤ 90000) (q : ∀ y : Str, y.length ≤ 100000 → Q (.str y) H) : rJoin K (.str " ") [.ref p] H Q := by
  have e : (Str.ofString " ").length = 1 := by decide +kernel
  have := join_sum (sep := Str.ofString " ") ys
  rw [e] at this
  exact ⟨_, p, ys, rfl, rfl, .inl h, by rw [e]; omega, q _ (by omega)⟩
def spSpoilt : Sp := fun vs H Q _ => ∃ (z : Str) (wy m : Int), vs = [.str z, .int wy, .int m] ∧ z.length ≤ 7000 ∧ 0 ≤ wy ∧ ∀ y H', Same H H' → y.length ≤ 100000 → Q (.str y) H'
theorem sc__law_spoilt : FnScope ["line", "way", "number", "fields", "rest", "most", "last", "gap", "words", "kinds", "tails"] ["line", "way", "number"] (defScope (topS 25)) := ⟨rfl, rfl, rfl, by decide +kernel, rfl, by decide +kernel, by decide +kernel⟩
theorem ok_spoilt {f : Addr} {fd : FuncData} (F : Fun K "_law_spoilt" "_law_spoilt" (topS 25) f fd) (T : Txt mg) : FnOk P w K mg base (L2.CX P w) 1 f fd ["line", "way", "number"] spSpoilt := by
  refine okT F sc__law_spoilt (by decide +kernel) (by decide) (fun vs H Q E h => ?_) (fun cdv A outer s H vs Q E hr h => ?_)
  · obtain ⟨z, wy, m, rfl, _⟩ := h
    rfl
  · obtain ⟨z, wy, m, rfl, hz, hw, q⟩ := h
    refine ⟨_, (tps_cons (ps_set (i := 3) sc__law_spoilt.nd rfl (by first | exact Or.inl rfl | exact Or.inr rfl) (pe_split (pv 0) pe_str))
  (tps_cons (ps_set (i := 4) sc__law_spoilt.nd rfl (by first | exact Or.inl rfl | exact Or.inr rfl) (pe_slice (slAnyK K rfl) (pv 3) (po_some pe_int) po_none))
  (tps_cons (ps_set (i := 5) sc__law_spoilt.nd rfl (by first | exact Or.inl rfl | exact Or.inr rfl) (pe_slice (slAnyK K rfl) (pv 3) po_none (po_some (pe_un un_neg pe_int))))
  (tps_cons (ps_set (i := 6) sc__law_spoilt.nd rfl (by first | exact Or.inl rfl | exact Or.inr rfl) (pe_ix (ixK K rfl) (pv 3) (pe_un un_neg pe_int) (fun _ _ => rfl)))
  (tps_cons (ps_set (i := 7) sc__law_spoilt.nd rfl (by first | exact Or.inl rfl | exact Or.inr rfl) (pe_m1 PySem.F.slot_str_find PySem.F.type_str_find mt_find (pv 0) pe_str))
  (tps_cons (ps_set (i := 8) sc__law_spoilt.nd rfl (by first | exact Or.inl rfl | exact Or.inr rfl) (pe_lst (pa_str (pa_str (pa_str (pa_str (pa_str (pa_str (pa_str (pa_str (pa_str (pa_str (pa_str (pa_str pa_nil))))))))))))))
  (tps_cons (ps_set (i := 9) sc__law_spoilt.nd rfl (by first | exact Or.inl rfl | exact Or.inr rfl) (pe_lst (pa_str (pa_str (pa_str (pa_str pa_nil))))))
  (tps_cons (ps_set (i := 10) sc__law_spoilt.nd rfl (by first | exact Or.inl rfl | exact Or.inr rfl) (pe_lst (pa_cons (pe_op (opAddK K rfl) pe_str (pv 6)) (pa_str (pa_str (pa_str (pa_cons (pe_op (opAddK K rfl) (pv 6) pe_str) (pa_str (pa_str (pa_str (pa_str (pa_str (pa_str (pa_str (pa_cons (pe_op (opAddK K rfl) (pv 6) pe_str) pa_nil)))))))))))))))
  (tps_cons (ps_if (pt_cmpR opEq (pv 1) pe_int (nomark _)) (pss_one (ps_ret (pe_op (opAddK K rfl) (pv 0) pe_str))) pss_nil)
  (tps_cons (ps_if (pt_cmpR opEq (pv 1) pe_int (nomark _)) (pss_one (ps_ret (pe_op (opAddK K rfl) pe_str (pv 0)))) pss_nil)
  (tps_cons (ps_if (pt_cmpR opEq (pv 1) pe_int (nomark _)) (pss_one (ps_ret (pe_op (opAddK K rfl) (pe_op (opAddK K rfl) (pe_slice (slAnyK K rfl) (pv 0) po_none (po_some (pv 7))) pe_str) (pe_slice (slAnyK K rfl) (pv 0) (po_some (pv 7)) po_none)))) pss_nil)
  (tps_cons (ps_if (pt_cmpR opEq (pv 1) pe_int (nomark _)) (pss_one (ps_ret pe_str)) pss_nil)
  (tps_cons (ps_if (pt_cmpR opEq (pv 1) pe_int (nomark _)) (pss_one (ps_ret (pe_ix (ixK K rfl) (pv 3) pe_int (fun _ _ => rfl)))) pss_nil)
  (tps_cons (ps_if (pt_cmpR opEq (pv 1) pe_int (nomark _)) (pss_one (ps_ret (pe_joinK K rfl pe_str (pv 5)))) pss_nil)
  (tps_cons (ps_if (pt_cmpR op_lt (pv 1) pe_int (nomark _)) (pss_one (ps_ret (pe_op (opAddK K rfl) (pv 0) (pe_ix (ixK K rfl) (pe_lst (pa_str (pa_str (pa_str (pa_str pa_nil))))) (pe_op op_sub (pv 1) pe_int) (fun _ _ => rfl))))) pss_nil)
  (tps_cons (ps_if (pt_cmpR opEq (pv 1) pe_int (nomark _)) (pss_one (ps_ret (pe_joinK K rfl pe_str (pe_op (opAddK K rfl) (pe_lst (pa_cons (pe_ix (ixK K rfl) (pv 3) pe_int (fun _ _ => rfl)) (pa_str pa_nil))) (pv 4))))) pss_nil)
  (tps_cons (ps_if (pt_cmpR opEq (pv 1) pe_int (nomark _)) (pss_one (ps_ret (pe_joinK K rfl pe_str (pe_op (opAddK K rfl) (pe_lst (pa_cons (pe_ix (ixK K rfl) (pv 8) (pe_op op_mod (pe_callTy call_intOf (by rfl) T.z_int (by decide +kernel) (pa_cons (pv 2) pa_nil)) pe_int) (fun _ _ => rfl)) pa_nil)) (pv 4))))) pss_nil)
  (tps_cons (ps_if (pt_cmpR opEq (pv 1) pe_int (nomark _)) (pss_one (ps_ret (pe_joinK K rfl pe_str (pe_op (opAddK K rfl) (pe_lst (pa_cons (pe_ix (ixK K rfl) (pv 9) (pe_op op_mod (pe_callTy call_intOf (by rfl) T.z_int (by decide +kernel) (pa_cons (pv 2) pa_nil)) pe_int) (fun _ _ => rfl)) pa_nil)) (pv 4))))) pss_nil)
  (tps_consT (tp_if (pt_cmpR opEq (pv 1) pe_int (nomark _)) (tps_consT (tp_retRep (pv 0))
  tps_nil) tps_nil)
  (tps_cons (ps_ret (pe_joinK K rfl pe_str (pe_op (opAddK K rfl) (pv 5) (pe_lst (pa_cons (pe_ix (ixK K rfl) (pv 10) (pe_op op_mod (pe_callTy call_intOf (by rfl) T.z_int (by decide +kernel) (pa_cons (pe_op op_sub (pv 1) pe_int) pa_nil)) pe_int) (fun _ _ => rfl)) pa_nil)))))
  tps_nil)))))))))))))))))))), ?_⟩
    have vz : ∀ {σ : L2.St} {H' : Hp}, σ[0]? = some (some (.str z)) → Val (tVar 0) σ H' (.str z) := fun h => val_var h
    have one : (Str.ofString " ").length = 1 := by decide +kernel
    refine sq_asg (un_m1 (val_var rfl) ⟨z, " ", rfl, rfl, by decide +kernel, sz_le (by omega), fun a ha => ?_⟩)
    have s0 : Same H (upd H a (.lst ((Txt.split z (Str.ofString " ")).map V.str))) := same_new ha
    have hL : upd H a (.lst ((Txt.split z (Str.ofString " ")).map V.str)) a = some (.lst ((fieldsOf z).map V.str)) := upd_same
    generalize upd H a (.lst ((Txt.split z (Str.ofString " ")).map V.str)) = H1 at s0 hL ⊢
    have hfs := fields_sum z
    have hfn := fields_len z
    generalize hf : fieldsOf z = fs at hL hfs hfn
    have hne : fs ≠ [] := by rw [← hf]; exact fields_ne z
    obtain ⟨k, r, ekr⟩ : ∃ k r, fs = k :: r := by
      cases fs with
      | nil => exact absurd rfl hne
      | cons k r => exact ⟨k, r, rfl⟩
    have hl : fs = fs.dropLast ++ [fs.getLast hne] := (List.dropLast_concat_getLast hne).symm
    generalize hla : fs.getLast hne = la at hl
    have hll : la.length ≤ 7000 := by
      have : la ∈ fs := by rw [← hla]; exact List.getLast_mem hne
      have := mem_sum this
      omega
    -- rest
    refine sq_asg (sl_list' (K := K) (lo := some 1) (hi := none) (val_var rfl) (.inl (.inl hL)) (fun Q q => po_v val_c q) (fun Q q => po_n q) fun p4 h4 => ?_)
    obtain ⟨a4, b4, e4⟩ := cut_strs fs (some 1) none
    rw [e4]
    have s4 : Same H (upd H1 p4 (.lst (((fs.drop a4).take b4).map V.str))) := s0.trans (same_new h4)
    have hL4 : upd H1 p4 (.lst (((fs.drop a4).take b4).map V.str)) a = some (.lst (fs.map V.str)) := same_new h4 _ _ hL
    have h4' : upd H1 p4 (.lst (((fs.drop a4).take b4).map V.str)) p4 = some (.lst (((fs.drop a4).take b4).map V.str)) := upd_same
    have z4 : (((fs.drop a4).take b4).map Str.length).sum ≤ 7000 ∧ ((fs.drop a4).take b4).length ≤ 7002 := by
      have h1 := sum_take (fs.drop a4) b4
      have h2 := sum_drop fs a4
      rw [List.length_take, List.length_drop]
      omega
    generalize (fs.drop a4).take b4 = rs at s4 hL4 h4' z4 ⊢
    generalize upd H1 p4 (.lst (rs.map V.str)) = H2 at s4 hL4 h4' ⊢
    -- most
    refine sq_asg (sl_list' (K := K) (lo := none) (hi := some (-1)) (val_var rfl) (.inl (.inl hL4)) (fun Q q => po_n q) (fun Q q => po_v (v_neg1 val_c) q) fun p5 h5 => ?_)
    obtain ⟨a5, b5, e5⟩ := cut_strs fs none (some (-1))
    rw [e5]
    have s5 : Same H2 (upd H2 p5 (.lst (((fs.drop a5).take b5).map V.str))) := same_new h5
    have h5' : upd H2 p5 (.lst (((fs.drop a5).take b5).map V.str)) p5 = some (.lst (((fs.drop a5).take b5).map V.str)) := upd_same
    have z5 : (((fs.drop a5).take b5).map Str.length).sum ≤ 7000 ∧ ((fs.drop a5).take b5).length ≤ 7002 := by
      have h1 := sum_take (fs.drop a5) b5
      have h2 := sum_drop fs a5
      rw [List.length_take, List.length_drop]
      omega
    generalize (fs.drop a5).take b5 = ms at s5 h5' z5 ⊢
    generalize upd H2 p5 (.lst (ms.map V.str)) = H3 at s5 h5' ⊢
    have s03 : Same H H3 := s4.trans s5
    have hL3 := s5 _ _ hL4
    have hr3 := s5 _ _ h4'
    -- last, gap
    refine sq_set (vx_l (val_var rfl) (v_neg1 val_c) (.inl (.inl hL3)) (by rw [hl, List.map_append]; exact atI_last _ _)) ?_
    refine sq_asg (un_m1 (val_var rfl) ⟨z, " ", rfl, rfl, ?_⟩)
    generalize Txt.find z (Str.ofString " ") = gp
    -- the written lists
    refine sq_asg ⟨by show 12 ≤ sizeLine; decide, fun p8 h8 => ?_⟩
    have s8 : Same H3 (upd H3 p8 (.lst (words12.map V.str))) := same_new h8
    have hW : upd H3 p8 (.lst (words12.map V.str)) p8 = some (.lst (words12.map V.str)) := upd_same
    refine (show tSeq _ _ _ _ (upd H3 p8 (.lst (words12.map V.str))) from ?_)
    generalize upd H3 p8 (.lst (words12.map V.str)) = H4 at s8 hW ⊢
    refine sq_asg ⟨by show 4 ≤ sizeLine; decide, fun p9 h9 => ?_⟩
    have s9 : Same H4 (upd H4 p9 (.lst (kinds4.map V.str))) := same_new h9
    have hK : upd H4 p9 (.lst (kinds4.map V.str)) p9 = some (.lst (kinds4.map V.str)) := upd_same
    refine (show tSeq _ _ _ _ (upd H4 p9 (.lst (kinds4.map V.str))) from ?_)
    generalize upd H4 p9 (.lst (kinds4.map V.str)) = H5 at s9 hK ⊢
    have c1 : (Str.ofString "0").length = 1 := by decide +kernel
    have c2 : (Str.ofString "a").length = 1 := by decide +kernel
    have c3 : (Str.ofString "/").length = 1 := by decide +kernel
    refine sq_asg (un_lst (ta_val (v_cat val_c (val_var rfl) (by omega)) (ta_val val_c (ta_val val_c (ta_val val_c (ta_val (v_cat (val_var rfl) val_c (by omega)) (ta_val val_c (ta_val val_c (ta_val val_c (ta_val val_c (ta_val val_c (ta_val val_c (ta_val val_c (ta_val (v_cat (val_var rfl) val_c (by omega)) ⟨by show 13 ≤ sizeLine; decide, fun p10 h10 => ?_⟩))))))))))))))
    have s10 : Same H5 (upd H5 p10 (.lst ((tails13 la).map V.str))) := same_new h10
    have hT : upd H5 p10 (.lst ((tails13 la).map V.str)) p10 = some (.lst ((tails13 la).map V.str)) := upd_same
    refine (show tSeq _ _ _ _ (upd H5 p10 (.lst ((tails13 la).map V.str))) from ?_)
    generalize upd H5 p10 (.lst ((tails13 la).map V.str)) = H6 at s10 hT ⊢
    have sAll : Same H H6 := ((s03.trans s8).trans s9).trans s10
    have s36 : Same H3 H6 := (s8.trans s9).trans s10
    have hF6 : H6 a = some (.lst (fs.map V.str)) := s36 _ _ hL3
    have hR6 : H6 p4 = some (.lst (rs.map V.str)) := s36 _ _ hr3
    have hM6 : H6 p5 = some (.lst (ms.map V.str)) := s36 _ _ h5'
    have hW6 : H6 p8 = some (.lst (words12.map V.str)) := (s9.trans s10) _ _ hW
    have hK6 : H6 p9 = some (.lst (kinds4.map V.str)) := s10 _ _ hK
    have out : ∀ {y : Str}, y.length ≤ 100000 → Q (.str y) H6 := fun hy => q _ _ sAll hy
    refine sq_ifR (wy = 0) (a_eqI (val_var rfl) val_c) (fun h => v_cat (vz rfl) val_c (by omega) _ (out (by rw [app_len]; omega))) (fun _ => ?_)
    refine sq_ifR (wy = 1) (a_eqI (val_var rfl) val_c) (fun h => v_cat val_c (vz rfl) (by omega) _ (out (by rw [app_len]; omega))) (fun _ => ?_)
    refine sq_ifR (wy = 2) (a_eqI (val_var rfl) val_c) (fun h => ?_) (fun _ => ?_)
    · have l1 := cutS_length z none (some gp)
      have l2 := cutS_length z (some gp) none
      refine v_cat (v_cat (sl_txt (lo := none) (hi := some gp) (vz rfl) (by omega) (fun Q q => po_n q) (fun Q q => po_v (val_var rfl) q)) val_c (by omega)) (sl_txt (lo := some gp) (hi := none) (vz rfl) (by omega) (fun Q q => po_v (val_var rfl) q) (fun Q q => po_n q)) (by rw [app_len]; omega) _ (out (by rw [app_len, app_len]; omega))
    refine sq_ifR (wy = 3) (a_eqI (val_var rfl) val_c) (fun h => out (by decide +kernel)) (fun _ => ?_)
    refine sq_ifR (wy = 4) (a_eqI (val_var rfl) val_c) (fun h => ?_) (fun _ => ?_)
    · have : k ∈ fs := by rw [ekr]; simp
      have := mem_sum this
      exact vx_l (val_var rfl) val_c (.inl (.inl hF6)) (atI_nat (j := 0) (by rw [ekr]; rfl)) _ (out (y := k) (by omega))
    refine sq_ifR (wy = 5) (a_eqI (val_var rfl) val_c) (fun h => ?_) (fun _ => ?_)
    · exact un_m1 val_c (val_var (v := .ref p5) rfl _ (join_any (K := K) (.inl (.inl hM6)) (by omega) fun y hy => out hy))
    refine sq_ifR (wy < 10) (a_lt (val_var rfl) val_c) (fun h => ?_) (fun _ => ?_)
    · refine un_op (vz rfl _ (un_op ?_))
      refine un_lst (ta_val val_c (ta_val val_c (ta_val val_c (ta_val val_c ⟨by show 4 ≤ sizeLine; decide, fun p hp => ?_⟩))))
      have hE : SqL K (upd H6 p (.lst (ends4.map V.str))) p (ends4.map V.str) := sql_new
      obtain ⟨y, hy, ey⟩ : ∃ y, y ∈ ends4 ∧ atI (ends4.map V.str) (wy - 6) = some (.str y) := by
        have : wy = 6 ∨ wy = 7 ∨ wy = 8 ∨ wy = 9 := by omega
        rcases this with rfl | rfl | rfl | rfl
        · exact ⟨_, by decide +kernel, atI_nat (j := 0) rfl⟩
        · exact ⟨_, by decide +kernel, atI_nat (j := 1) rfl⟩
        · exact ⟨_, by decide +kernel, atI_nat (j := 2) rfl⟩
        · exact ⟨_, by decide +kernel, atI_nat (j := 3) rfl⟩
      have ly : y.length ≤ 10 := (by decide +kernel : ∀ y ∈ ends4, y.length ≤ 10) y hy
      refine v_sub (i := wy) (val_var rfl) val_c _ (.inl ⟨p, _, _, _, rfl, rfl, hE, ey, .inr (.inl ⟨_, _, rfl, rfl, sz_le (by omega), ?_⟩)⟩)
      exact q _ _ (sAll.trans (same_new hp)) (by rw [app_len]; omega)
    refine sq_ifR (wy = 10) (a_eqI (val_var rfl) val_c) (fun h => ?_) (fun _ => ?_)
    · have hk : k ∈ fs := by rw [ekr]; simp
      have := mem_sum hk
      refine un_m1 val_c (un_op (un_lst (ta_val (vx_l (val_var rfl) val_c (.inl (.inl hF6)) (atI_nat (j := 0) (by rw [ekr]; rfl))) (ta_val val_c ⟨by show 2 ≤ sizeLine; decide, fun p hp => ?_⟩))))
      refine val_var (v := .ref p4) rfl _ (.inr (.inr (.inl ⟨p, p4, _, _, rfl, rfl, upd_same, same_new hp _ _ hR6, ?_, fun p2 hp2 => ?_⟩)))
      · rw [List.length_map]
        exact sz_le (by show 2 + rs.length ≤ _; omega)
      · refine join_any (K := K) (ys := [k, "/"] ++ rs) ?_ ?_ fun y hy => q _ _ ((sAll.trans (same_new hp)).trans (same_new hp2)) hy
        · rw [List.map_append]
          exact sql_new
        · rw [List.map_append, List.sum_append, List.length_append]
          show k.length + ((Str.ofString "/").length + 0) + _ + (2 + rs.length) ≤ _
          omega
    have front : ∀ {y : Str} {p : Addr}, y.length ≤ 100 → H6 p = none → rAddAny K (.ref p) (.ref p4) (upd H6 p (.lst [.str y])) fun v H' => rJoin K (.str " ") [v] H' Q := by
      intro y p hy hp
      refine .inr (.inr (.inl ⟨p, p4, _, _, rfl, rfl, upd_same, same_new hp _ _ hR6, ?_, fun p2 hp2 => ?_⟩))
      · rw [List.length_map]
        exact sz_le (by show 1 + rs.length ≤ _; omega)
      · refine join_any (K := K) (ys := [y] ++ rs) ?_ ?_ fun y hy => q _ _ ((sAll.trans (same_new hp)).trans (same_new hp2)) hy
        · rw [List.map_append]
          exact sql_new
        · rw [List.map_append, List.sum_append, List.length_append]
          show (y.length + 0) + _ + (1 + rs.length) ≤ _
          omega
    refine sq_ifR (wy = 11) (a_eqI (val_var rfl) val_c) (fun h => ?_) (fun _ => ?_)
    · obtain ⟨y, hy, ey⟩ := at_modS (zs := words12) (by decide) m (n := 12) rfl
      have ly : y.length ≤ 100 := (by decide +kernel : ∀ y ∈ words12, y.length ≤ 100) y hy
      refine un_m1 val_c (un_op (un_lst (ta_val (vx_l (val_var rfl) (v_mod (v_int (i := m) (val_var rfl)) val_c (by decide)) (.inl (.inl hW6)) ey) ⟨by show 1 ≤ sizeLine; decide, fun p hp => ?_⟩)))
      exact val_var (v := .ref p4) rfl _ (front ly hp)
    refine sq_ifR (wy = 12) (a_eqI (val_var rfl) val_c) (fun h => ?_) (fun _ => ?_)
    · obtain ⟨y, hy, ey⟩ := at_modS (zs := kinds4) (by decide) m (n := 4) rfl
      have ly : y.length ≤ 100 := (by decide +kernel : ∀ y ∈ kinds4, y.length ≤ 100) y hy
      refine un_m1 val_c (un_op (un_lst (ta_val (vx_l (val_var rfl) (v_mod (v_int (i := m) (val_var rfl)) val_c (by decide)) (.inl (.inl hK6)) ey) ⟨by show 1 ≤ sizeLine; decide, fun p hp => ?_⟩)))
      exact val_var (v := .ref p4) rfl _ (front ly hp)
    have tabl : (Str.ofString "\t").length = 1 := by decide +kernel
    refine sq_ifR (wy = 13) (a_eqI (val_var rfl) val_c) (fun h => ?_) (fun _ => ?_)
    · have hr := TK.replace_len z (Str.ofString " ") (Str.ofString "\t")
      refine vz rfl _ ⟨z, rfl, by rw [tabl]; omega, out (by rw [tabl] at hr; omega)⟩
    · obtain ⟨y, hy, ey⟩ := at_modS (zs := tails13 la) (by unfold tails13; simp) (wy - 14) (n := 13) rfl
      have ly : y.length ≤ 7010 := by
        unfold tails13 at hy
        simp only [List.mem_cons, List.not_mem_nil, or_false] at hy
        have d : ∀ {x : Str}, x.length ≤ 10 → y = x → y.length ≤ 7010 := fun h e => by rw [e]; omega
        rcases hy with h | h | h | h | h | h | h | h | h | h | h | h | h
        · rw [h, app_len]; omega
        · exact d (by decide +kernel) h
        · exact d (by decide +kernel) h
        · exact d (by decide +kernel) h
        · rw [h, app_len]; omega
        · exact d (by decide +kernel) h
        · exact d (by decide +kernel) h
        · exact d (by decide +kernel) h
        · exact d (by decide +kernel) h
        · exact d (by decide +kernel) h
        · exact d (by decide +kernel) h
        · exact d (by decide +kernel) h
        · rw [h, app_len]; omega
      refine sq_retm (un_m1 val_c (un_op (val_var (v := .ref p5) rfl _ (un_lst (ta_val (vx_l (val_var rfl) (v_mod (v_int (v_sub (i := wy) (val_var rfl) val_c)) val_c (by decide)) (.inl (.inl hT)) ey) ⟨by show 1 ≤ sizeLine; decide, fun p hp => ?_⟩)))))
      refine .inr (.inr (.inl ⟨p5, p, _, _, rfl, rfl, same_new hp _ _ hM6, upd_same, ?_, fun p2 hp2 => ?_⟩))
      · rw [List.length_map]
        exact sz_le (by show ms.length + 1 ≤ _; omega)
      · refine join_any (K := K) (ys := ms ++ [y]) ?_ ?_ fun y hy => q _ _ ((sAll.trans (same_new hp)).trans (same_new hp2)) hy
        · rw [List.map_append]
          exact sql_new
        · rw [List.map_append, List.sum_append, List.length_append]
          show _ + (y.length + 0) + (ms.length + 1) ≤ _
          omega
end
end K54

namespace K54
open PySem PySem.Spec PyProof.Rows TL L2 L3
section
variable {P : Program} {w : World} {K : PySem.W.Frag} {mg : Str → Option Value} {base : Heap} {C fI : Addr} {dI : FuncData}
/-- the exception's field can be read, and it is caught by its own name -/
structure BadR (K : PySem.W.Frag) (C : Addr) : Prop where
  xf : XfC K C
  no : PySem.W.findIn K (.ref C) "line" = some none
  te : PySem.W.exmOne K (.ref C) (.ref C) = some true
def ToldRows (K : PySem.W.Frag) (H : Hp) (v : V) (rs : List Row) : Prop := ∃ (t q : Addr) (us : List V), v = .ref t ∧ SqT K H t [.str "rows", .ref q] ∧ SqT K H q us ∧ All2 (RowV K H) us rs
def ToldLine (K : PySem.W.Frag) (H : Hp) (v : V) (n : Nat) : Prop := ∃ t : Addr, v = .ref t ∧ SqT K H t [.str "line", .int (n : Nat)]
def Told (K : PySem.W.Frag) (H : Hp) (v : V) : List Row ⊕ Nat → Prop
  | .inl rs => ToldRows K H v rs
  | .inr n => ToldLine K H v n
def spTold (K : PySem.W.Frag) : Sp := fun vs H Q _ => ∃ (p : Addr) (lines : List Str), vs = [.ref p] ∧ (SqL K H p (lines.map V.str) ∨ SqT K H p (lines.map V.str)) ∧ (∀ z ∈ lines, z.length ≤ 100000) ∧ lines.length ≤ 100000 ∧ ∀ v H', Same H H' → Told K H' v (readPaper 1 lines) → Q v H'
theorem sc__law_told : FnScope ["lines", "e"] ["lines"] (defScope (topS 26)) := ⟨rfl, rfl, rfl, by decide +kernel, rfl, by decide +kernel, by decide +kernel⟩
theorem ok_told {f : Addr} {fd : FuncData} (F : Fun K "_law_told" "_law_told" (topS 26) f fd) (T : Txt mg) (B : BadM P w K mg base C fI dI) (R : BadR K C) {f1 : Addr} {d1 : FuncData} (G_read_paper : Cal P w K mg base 7 "read_paper" ["lines"] (spReadPaper K C) f1 d1) :
    FnOk P w K mg base (L2.CX P w) 8 f fd ["lines"] (spTold K) := by
  refine F.okX sc__law_told (fun vs H Q E h => ?_) (fun cdv A outer s H vs Q E hr h => ?_)
  · obtain ⟨p, lines, rfl, _⟩ := h
    rfl
  · obtain ⟨p, lines, rfl, hp, hz, hl, q⟩ := h
    refine ⟨_, pss_one (ps_try_as (i := 1) (Wout := fun _ _ _ _ => False) rfl rfl sc__law_told.nd rfl rfl ⟨rfl, by decide, .inl B.mg⟩ takes0
      (fun W pn xe tk _ => pss_one (ps_ret (pe_tup (pa_str (pa_cons (pe_callS G_read_paper.ok (hr.mono (by decide)) rfl G_read_paper.mg G_read_paper.kp G_read_paper.bi (fun σ => passAt tk σ) (pa_cons (pv 0) pa_nil)) pa_nil)))))
      (fun a oe cls d pn hz hf => pss_one (ps_ret (pe_tup (pa_str (pa_cons (pe_xf R.xf R.no hz hf (pv 1)) pa_nil)))))), ?_⟩
    refine un_ret (un_tup (ta_val val_c (ta_un ⟨.ref p, rfl, p, lines, rfl, hp, hz, hl, fun rs er q1 us H' s' hq ha => ?_, fun n en d H' s' nd e => ?_⟩)))
    · refine ⟨by show 2 ≤ sizeLine; decide, fun t ht => q _ _ (s'.trans (same_new ht)) ?_⟩
      rw [er]
      exact ⟨t, q1, us, rfl, sqt_new, same_t (same_new ht) hq, ha.mono fun _ _ h => h.mono (tsm_same (same_new ht))⟩
    · refine ⟨true, R.te, fun _ a ha => ?_, fun z => Bool.noConfusion z⟩
      refine un_ret (un_tup (ta_val val_c (ta_un ⟨.ref a, rfl, rfl, rfl, d, _, _, rfl, e, rfl, by show 2 ≤ sizeLine; decide, fun t ht => q _ _ (s'.trans (same_new ht)) ?_⟩)))
      rw [en]
      exact ⟨t, rfl, sqt_new⟩
end
end K54

namespace K54
open PySem PySem.Spec PyProof.Rows TL L2 L3
section
variable {P : Program} {w : World} {K : PySem.W.Frag} {mg : Str → Option Value} {base : Heap}
def spDue (K : PySem.W.Frag) : Sp := fun vs H Q _ => ∃ (p q s : Addr) (us : List V) (rs : List Row) (lines : List Str) (spots : List Nat), vs = [.ref p, .ref q, .ref s] ∧ SqL K H p us ∧ All2 (RowV K H) us rs ∧ SqL K H q (lines.map V.str) ∧ (∀ z ∈ lines, z.length ≤ 100000) ∧ lines.length = rs.length ∧ lines.length ≤ 100000 ∧
  SqL K H s ((spots.map fun n => ((n : Nat) : Int)).map V.int) ∧ (∀ n ∈ spots, n < rs.length) ∧ spots.length ≤ 1000 ∧ ∀ sp' : List Nat, sp'.Perm spots → sp'.Pairwise (· ≤ ·) → ∀ v H', Same H H' → Told K H' v (dueGo rs lines sp') → Q v H'
theorem sc__law_due : FnScope ["rows", "lines", "spots", "told", "at"] ["rows", "lines", "spots"] (defScope (topS 27)) := ⟨rfl, rfl, rfl, by decide +kernel, rfl, by decide +kernel, by decide +kernel⟩
theorem ok_due {f : Addr} {fd : FuncData} (F : Fun K "_law_due" "_law_due" (topS 27) f fd) (T : Txt mg) {f1 : Addr} {d1 : FuncData} (G__law_row : Cal P w K mg base 3 "_law_row" ["line"] (spRow K) f1 d1) :
    FnOk P w K mg base (L2.CX P w) 4 f fd ["rows", "lines", "spots"] (spDue K) := by
  refine F.okX sc__law_due (fun vs H Q E h => ?_) (fun cdv A outer s H vs Q E hr h => ?_)
  · obtain ⟨p, q, s, us, rs, lines, spots, rfl, _⟩ := h
    rfl
  · obtain ⟨p, q, sp, us, rs, lines, spots, rfl, hp, ha, hq, hz, hl, hl2, hs, hsl, hsn, k⟩ := h
    refine ⟨_, (pss_cons (ps_set (i := 3) sc__law_due.nd rfl (by first | exact Or.inl rfl | exact Or.inr rfl) (pe_callTy (call_listK K rfl) (by rfl) T.z_list (by decide +kernel) (pa_cons (pv 0) pa_nil)))
  (pss_cons (ps_for (passes_of rfl) rfl (pi_anyK K rfl (pe_callB (call_sortedK K rfl) (by rfl) T.z_sorted (by decide +kernel) (pa_cons (pv 2) pa_nil))) (pg_name (i := 4) sc__law_due.nd rfl (by first | exact Or.inl rfl | exact Or.inr rfl))
   (pss_cons (ps_asg (pe_call G__law_row.ok (hr.mono (by first | decide | exact Nat.le_refl _)) rfl G__law_row.mg G__law_row.kp G__law_row.bi .nil passL (pa_cons (pe_ix (ixK K rfl) (pv 1) (pv 4) (fun _ _ => rfl)) pa_nil)) (pg_sub (pv 3) (pv 4) set_list))
  (pss_one (ps_if (pt_cmpR opIs (pe_ix (ixK K rfl) (pv 3) (pv 4) (fun _ _ => rfl)) pe_non (nomark _)) (pss_one (ps_ret (pe_tup (pa_str (pa_cons (pe_op (opAddK K rfl) (pv 4) pe_int) pa_nil))))) pss_nil))))
  (pss_one (ps_ret (pe_tup (pa_str (pa_cons (pe_callTy (call_tupleK K rfl) (by rfl) T.z_tuple (by decide +kernel) (pa_cons (pv 3) pa_nil)) pa_nil))))))), ?_⟩
    refine sq_asg (un_cb1 (val_var (v := .ref p) rfl _ ⟨p, us, rfl, .inl hp, fun D hD => ?_⟩))
    have s1 : Same H (upd H D (.lst us)) := same_new hD
    refine sq_for (.inl (un_cb1 (val_var (v := .ref sp) rfl _ ⟨sp, _, rfl, same_l s1 hs, fun ns' g hperm hpw hg => ?_⟩)))
    -- the sorted spots as numbers
    obtain ⟨sp', hsp, hperm', hpw'⟩ : ∃ sp' : List Nat, ns' = sp'.map (fun n => ((n : Nat) : Int)) ∧ sp'.Perm spots ∧ sp'.Pairwise (· ≤ ·) := by
      have hnn : ∀ n ∈ ns', 0 ≤ n := fun n hn => by
        obtain ⟨m, _, rfl⟩ := List.mem_map.mp (hperm.mem_iff.mp hn)
        omega
      have e : ns' = (ns'.map Int.toNat).map (fun n => ((n : Nat) : Int)) := by
        rw [List.map_map]
        conv => lhs; rw [← List.map_id ns']
        exact List.map_congr_left fun n hn => (Int.toNat_of_nonneg (hnn n hn)).symm
      refine ⟨ns'.map Int.toNat, e, ?_, ?_⟩
      · have := hperm.map Int.toNat
        rw [List.map_map] at this
        have e2 : spots.map (Int.toNat ∘ fun n => ((n : Nat) : Int)) = spots := by
          conv => rhs; rw [← List.map_id spots]
          exact List.map_congr_left fun n _ => rfl
        rw [e2] at this
        exact this
      · rw [List.pairwise_map]
        exact hpw.imp fun h => by omega
    subst hsp
    have hss : ∀ n ∈ sp', n < rs.length := fun n hn => hsl n (hperm'.mem_iff.mp hn)
    have sG : Same H (upd (upd H D (.lst us)) g (.lst ((sp'.map fun n => ((n : Nat) : Int)).map V.int))) := s1.trans (same_new hg)
    have hDg : D ≠ g := ne_of_none (upd_same (H := H) (o := .lst us)) hg
    refine ⟨g, rfl, ⟨_, sql_new⟩, for_it walk_list (fun i σ H' => ∃ us' rs' y4, σ = [some (.ref p), some (.ref q), some (.ref sp), some (.ref D), y4] ∧ Same H H' ∧ H' D = some (.lst us') ∧ All2 (RowV K H') us' rs' ∧ H' g = some (.lst ((sp'.map fun n => ((n : Nat) : Int)).map V.int)) ∧ rs'.length = rs.length ∧ dueGo rs lines sp' = dueGo rs' lines (sp'.drop i))
      ⟨us, rs, none, rfl, sG, by rw [upd_ne hDg, upd_same], ha.mono fun _ _ h => h.mono (tsm_same sG), upd_same, rfl, rfl⟩ (fun i σ H' _ ⟨_, _, _, _, _, _, _, e, _⟩ => .inl (.inl e)) ?_ ?_⟩
    · rintro i x σ H1 H2 hi ⟨us', rs', y4, rfl, s2, hD2, ha2, hg2, hrl, hdue⟩ ⟨rfl, ex⟩
      rw [List.length_map, List.length_map] at hi
      have en : sp'[i]? = some sp'[i] := List.getElem?_eq_getElem hi
      rw [List.getElem?_map, List.getElem?_map, en] at ex
      cases Option.some.inj ex
      have hn : sp'[i] < rs.length := hss _ (List.getElem_mem hi)
      have hdrop : sp'.drop i = sp'[i] :: sp'.drop (i + 1) := List.drop_eq_getElem_cons hi
      rw [hdrop] at hdue
      generalize sp'[i] = n at en hn hdue ⊢
      have hnl : n < lines.length := by omega
      have el : lines[n]? = some (lines.getD n Str.empty) := by
        rw [List.getD_eq_getElem?_getD, List.getElem?_eq_getElem hnl]
        rfl
      have hzl : (lines.getD n Str.empty).length ≤ 100000 := hz _ (List.mem_of_getElem? el)
      have hdue' : dueGo rs' lines (n :: sp'.drop (i + 1)) = (match parseRow (lines.getD n Str.empty) with
          | none => .inr (n + 1)
          | some row => dueGo (rs'.set n row) lines (sp'.drop (i + 1))) := rfl
      rw [hdue'] at hdue
      generalize lines.getD n Str.empty = l at el hzl hdue
      have hul : n < us'.length := by rw [ha2.1, hrl]; exact hn
      -- behind told[at] = v
      have after : ∀ (v : V) (H3 : Hp), Same H2 H3 → (v = .non → parseRow l = none) → (v ≠ .non → ∃ r, parseRow l = some r ∧ RowV K H3 v r) →
          tIfS (tTest (tOp rIsAny (tOp (rIx K) (tVar 3) (tVar 4)) (tC V.non))) (tRet (tTup (tCons (tC (V.str "line")) (tCons (tOp (rAddAny K) (tVar 4) (tC (V.int 1))) tNil)))) tNext
            { nx := fun σ H' => ∃ us' rs' y4, σ = [some (.ref p), some (.ref q), some (.ref sp), some (.ref D), y4] ∧ Same H H' ∧ H' D = some (.lst us') ∧ All2 (RowV K H') us' rs' ∧ H' g = some (.lst ((sp'.map fun n => ((n : Nat) : Int)).map V.int)) ∧ rs'.length = rs.length ∧ dueGo rs lines sp' = dueGo rs' lines (sp'.drop (i + 1)), rt := Q }
            [some (.ref p), some (.ref q), some (.ref sp), some (.ref D), some (.int (n : Nat))] (upd H3 D (.lst (us'.set n v))) := by
        intro v H3 s3 hv1 hv2
        have x1 : Val (tOp (rIx K) (tVar 3) (tVar 4)) [some (.ref p), some (.ref q), some (.ref sp), some (.ref D), some (.int (n : Nat))] (upd H3 D (.lst (us'.set n v))) v := vx_l (val_var rfl) (val_var rfl) sql_new (atI_nat (by rw [List.getElem?_set_self hul]))
        have sD : Same H (upd H3 D (.lst (us'.set n v))) := same_mut (s2.trans s3) hD
        refine st_if (v = .non) (a_isN x1) (fun e => ?_) (fun e => ?_)
        · refine un_ret (un_tup (ta_val val_c (ta_val (v_add (i := (n : Nat)) (val_var rfl) val_c) ⟨by show 2 ≤ sizeLine; decide, fun t ht => k sp' hperm' hpw' _ _ (sD.trans (same_new ht)) ?_⟩)))
          rw [hdue, hv1 e]
          refine ⟨t, rfl, ?_⟩
          have e2 : (((n + 1 : Nat) : Nat) : Int) = (n : Int) + 1 := by omega
          rw [e2]
          exact sqt_new
        · obtain ⟨r, er, hr⟩ := hv2 e
          have tD : TSm K H3 (upd H3 D (.lst (us'.set n v))) := tsm_lst (s3 _ _ hD2)
          refine ⟨_, rs'.set n r, _, rfl, sD, upd_same, All2.set (ha2.mono fun _ _ h => h.mono ((tsm_same s3).trans tD)) (hr.mono tD), ?_, by rw [List.length_set]; exact hrl, ?_⟩
          · rw [upd_ne hDg.symm]
            exact s3 _ _ hg2
          · rw [hdue, er]
      refine vx_l (val_var rfl) (val_var (v := .int (n : Nat)) rfl) (same_l s2 hq) (atI_nat (by rw [List.getElem?_map, el]; rfl)) _ ⟨l, rfl, hzl, fun r er v H3 s3 hv => ?_, fun er H3 s3 => ?_⟩
      · refine ⟨.ref D, rfl, .int (n : Nat), rfl, D, us', (n : Nat), n, rfl, rfl, s3 _ _ hD2, Evl.ixN_nat hul, after v H3 s3 (fun e => ?_) fun _ => ⟨r, er, hv⟩⟩
        obtain ⟨p', rest, e2, _⟩ := row_head hv
        rw [e2] at e
        cases e
      · exact ⟨.ref D, rfl, .int (n : Nat), rfl, D, us', (n : Nat), n, rfl, rfl, s3 _ _ hD2, Evl.ixN_nat hul, after .non H3 s3 (fun _ => er) fun e => absurd rfl e⟩
    · rintro σ H2 ⟨us', rs', y4, rfl, s2, hD2, ha2, hg2, hrl, hdue⟩
      rw [List.length_map, List.length_map, List.drop_length] at hdue
      dsimp only
      refine un_ret (un_tup (ta_val val_c (ta_un (un_cb1 (val_var (v := .ref D) rfl _ ⟨D, us', rfl, .inl ⟨.inl (.inl hD2), fun l hl => ⟨by show 2 ≤ sizeLine; decide, fun t ht => k sp' hperm' hpw' _ _ ((s2.trans (same_new hl)).trans (same_new ht)) ?_⟩⟩⟩)))))
      rw [hdue]
      exact ⟨t, l, us', rfl, sqt_new, same_t (same_new ht) sqt_new, ha2.mono fun _ _ h => h.mono (tsm_same ((same_new hl).trans (same_new ht)))⟩
end
end K54

namespace K54
open PySem PySem.Spec PyProof.Rows TL L2 L3
section
variable {K : PySem.W.Frag} {H : Hp}
theorem ty_l {a : Addr} {xs : List V} (h : SqL K H a xs) : TyX K H (.ref a) (.type "list") := by
  rcases h with (h | ⟨o, h⟩) | ⟨o, its, n, hk, hc, _⟩
  · exact .base (.lst h)
  · exact .base (.frz h)
  · exact .kList hk hc
theorem ty_t {a : Addr} {xs : List V} (h : SqT K H a xs) : TyX K H (.ref a) (.type "tuple") := by
  rcases h with (h | ⟨o, h⟩) | ⟨o, its, n, hk, hc, _⟩
  · exact .base (.tup h)
  · exact .fTuple h
  · exact .kTuple hk hc
theorem v_isi {te tc : TE} {σ : L2.St} {x : V} {t : Value} {b : Bool} {T : String} (h : Val te σ H x) (hc : Val tc σ H (.ty T)) (ty : TyX K H x t) (hk : PySem.W.kitOne K t (.type T) = some b) : Val (tCB (rIsi K) (tCons te (tCons tc tNil))) σ H (.bl b) := fun Q q =>
  h _ (hc _ ⟨x, .ty T, t, .type T, b, rfl, .ty T, ty, hk, q⟩)
/-- small data: sizes that len can tell -/
theorem dp_len : ∀ {vs : List V} {ds : List PyData}, DpAll K H vs ds → vs.length = ds.length
  | _, _, .nil => rfl
  | _, _, .cons _ h => by rw [List.length_cons, List.length_cons, dp_len h]
theorem dp_get : ∀ {vs : List V} {ds : List PyData}, DpAll K H vs ds → ∀ {i : Nat} {d : PyData}, ds[i]? = some d → ∃ v, vs[i]? = some v ∧ Dp K H v d
  | _, _, .nil, i, d, h => by simp at h
  | _, _, .cons h1 h2, 0, d, h => by
    cases Option.some.inj h
    exact ⟨_, rfl, h1⟩
  | _, _, .cons h1 h2, i + 1, d, h => dp_get h2 (i := i) (by simpa using h)
theorem mem_depth : ∀ {ds : List PyData} {d : PyData}, d ∈ ds → PyData.depth d ≤ PyData.depthAll ds
  | x :: r, d, h => by
    unfold PyData.depthAll
    rcases List.mem_cons.mp h with rfl | h
    · exact Nat.le_max_left _ _
    · exact Nat.le_trans (mem_depth h) (Nat.le_max_right _ _)
end
section
variable {P : Program} {w : World} {K : PySem.W.Frag} {mg : Str → Option Value} {base : Heap}
/-- lists and tuples of at most a million items -/
inductive Wid : PyData → Prop where
  | non : Wid .none
  | bl (b : Bool) : Wid (.bool b)
  | int (i : Int) : Wid (.int i)
  | str (x : Str) : Wid (.str x)
  | lst {ds : List PyData} : ds.length ≤ 1000000 → (∀ d ∈ ds, Wid d) → Wid (.list ds)
  | tup {ds : List PyData} : ds.length ≤ 1000000 → (∀ d ∈ ds, Wid d) → Wid (.tuple ds)
def spSame (K : PySem.W.Frag) : Nat → Sp
  | 0 => fun _ _ _ _ => False
  | n + 1 => fun vs H Q _ => ∃ (x y : V) (d : PyData), vs = [x, y] ∧ Dp K H x d ∧ Dp K H y d ∧ Wid d ∧ PyData.depth d ≤ n ∧ Q (.bl true) H
theorem sc__law_same : FnScope ["told", "due", "k"] ["told", "due"] (defScope (topS 17)) := ⟨rfl, rfl, rfl, by decide +kernel, rfl, by decide +kernel, by decide +kernel⟩
theorem ok_same {f : Addr} {fd : FuncData} (F : Fun K "_law_same" "_law_same" (topS 17) f fd) (T : Txt mg) (hm : mg "_law_same" = some (.ref f)) (hk : PySem.W.keepIn K (.ref f) = true) (hb : Binds K fd ["told", "due"] []) : ∀ n, FnOk P w K mg base (L2.CX P w) n f fd ["told", "due"] (spSame K n)
  | 0 => ⟨fun vs H Q E h => h.elim, fun A outer s H args us vs Q E _ _ _ _ h => h.elim⟩
  | n + 1 => by
    have G__law_same : Cal P w K mg base n "_law_same" ["told", "due"] (spSame K n) f fd := ⟨ok_same F T hm hk hb n, hm, hk, hb⟩
    refine F.okX sc__law_same (fun vs H Q E h => ?_) (fun cdv A outer s H vs Q E hr h => ?_)
    · obtain ⟨x, y, d, rfl, _⟩ := h
      rfl
    · obtain ⟨x, y, d, rfl, hx, hy, hwd, hd, q⟩ := h
      refine ⟨_, (pss_cons (ps_if (PW.pt (pw_or (pt_cmpR opIs (pv 1) pe_non (nomark _)) (pw_or (pt_cmpR opIs (pv 1) pe_bl (nomark _)) (pw_or1 (pt_cmpR opIs (pv 1) pe_bl (nomark _)))))) (pss_one (ps_ret (pe_or (pe_and (pe_cmpR opIs (pv 0) pe_non (nomark _)) (pe_one (pe_cmpR opIs (pv 1) pe_non (nomark _)))) (pe_or (pe_and (pe_cmpR opIs (pv 0) pe_bl (nomark _)) (pe_one (pe_cmpR opIs (pv 1) pe_bl (nomark _)))) (pe_one (pe_and (pe_cmpR opIs (pv 0) pe_bl (nomark _)) (pe_one (pe_cmpR opIs (pv 1) pe_bl (nomark _))))))))) pss_nil)
  (pss_cons (ps_if (pt_truK K rfl (pe_callB (call_isiK1 K rfl) (by rfl) T.z_isinstance (by decide +kernel) (pa_cons (pv 1) (pa_cons (pe_bltn (v := .ty "int") (by rfl) T.z_int (by decide +kernel) rfl) pa_nil)))) (pss_one (ps_ret (pe_and (pe_callB (call_isiK1 K rfl) (by rfl) T.z_isinstance (by decide +kernel) (pa_cons (pv 0) (pa_cons (pe_bltn (v := .ty "int") (by rfl) T.z_int (by decide +kernel) rfl) pa_nil))) (pe_and (pe_notTK K rfl (pe_callB (call_isiK1 K rfl) (by rfl) T.z_isinstance (by decide +kernel) (pa_cons (pv 0) (pa_cons (pe_bltn (v := .ty "bool") (by rfl) T.z_bool (by decide +kernel) rfl) pa_nil)))) (pe_one (pe_cmpR opEq (pv 0) (pv 1) (nomark _))))))) pss_nil)
  (pss_cons (ps_if (pt_truK K rfl (pe_callB (call_isiK1 K rfl) (by rfl) T.z_isinstance (by decide +kernel) (pa_cons (pv 1) (pa_cons (pe_bltn (v := .ty "str") (by rfl) T.z_str (by decide +kernel) rfl) pa_nil)))) (pss_one (ps_ret (pe_and (pe_callB (call_isiK1 K rfl) (by rfl) T.z_isinstance (by decide +kernel) (pa_cons (pv 0) (pa_cons (pe_bltn (v := .ty "str") (by rfl) T.z_str (by decide +kernel) rfl) pa_nil))) (pe_one (pe_cmpR opEq (pv 0) (pv 1) (nomark _)))))) pss_nil)
  (pss_cons (ps_if (PW.pt (pw_or (PW.pt (pw_and (pt_truK K rfl (pe_callB (call_isiK1 K rfl) (by rfl) T.z_isinstance (by decide +kernel) (pa_cons (pv 1) (pa_cons (pe_bltn (v := .ty "tuple") (by rfl) T.z_tuple (by decide +kernel) rfl) pa_nil)))) (pw_and1 (pt_not (pt_truK K rfl (pe_callB (call_isiK1 K rfl) (by rfl) T.z_isinstance (by decide +kernel) (pa_cons (pv 0) (pa_cons (pe_bltn (v := .ty "tuple") (by rfl) T.z_tuple (by decide +kernel) rfl) pa_nil)))))))) (pw_or1 (PW.pt (pw_and (pt_truK K rfl (pe_callB (call_isiK1 K rfl) (by rfl) T.z_isinstance (by decide +kernel) (pa_cons (pv 1) (pa_cons (pe_bltn (v := .ty "list") (by rfl) T.z_list (by decide +kernel) rfl) pa_nil)))) (pw_and1 (pt_not (pt_truK K rfl (pe_callB (call_isiK1 K rfl) (by rfl) T.z_isinstance (by decide +kernel) (pa_cons (pv 0) (pa_cons (pe_bltn (v := .ty "list") (by rfl) T.z_list (by decide +kernel) rfl) pa_nil))))))))))) (pss_one (ps_ret pe_bl)) pss_nil)
  (pss_cons (ps_if (pt_cmpR opNe (pe_callB (call_lenK K rfl) (by rfl) T.z_len PySem.boot_len (pa_cons (pv 0) pa_nil)) (pe_callB (call_lenK K rfl) (by rfl) T.z_len PySem.boot_len (pa_cons (pv 1) pa_nil)) (nomark _)) (pss_one (ps_ret pe_bl)) pss_nil)
  (pss_cons (ps_for (passes_of rfl) rfl (pi_range1 rfl T.z_range (pa_cons (pe_callB (call_lenK K rfl) (by rfl) T.z_len PySem.boot_len (pa_cons (pv 1) pa_nil)) pa_nil)) (pg_name (i := 2) sc__law_same.nd rfl (by first | exact Or.inl rfl | exact Or.inr rfl))
   (pss_one (ps_if (pt_not (pt_truK K rfl (pe_call G__law_same.ok (hr.mono (by first | decide | exact Nat.le_refl _)) rfl G__law_same.mg G__law_same.kp G__law_same.bi .nil passL (pa_cons (pe_ix (ixK K rfl) (pv 0) (pv 2) (fun _ _ => rfl)) (pa_cons (pe_ix (ixK K rfl) (pv 1) (pv 2) (fun _ _ => rfl)) pa_nil))))) (pss_one (ps_ret pe_bl)) pss_nil)))
  (pss_one (ps_ret pe_bl)))))))), ?_⟩
      have v0 : ∀ {z : Option V}, Val (tVar 0) [some x, some y, z] H x := val_var rfl
      have v1 : ∀ {z : Option V}, Val (tVar 1) [some x, some y, z] H y := val_var rfl
      -- the scalars None, True, False
      have first : (y = .non ∨ y = .bl true ∨ y = .bl false) → x = y → Val (tOrV (tAndV (tOp rIsAny (tVar 0) (tC .non)) (tOp rIsAny (tVar 1) (tC .non))) (tOrV (tAndV (tOp rIsAny (tVar 0) (tC (.bl true))) (tOp rIsAny (tVar 1) (tC (.bl true)))) (tAndV (tOp rIsAny (tVar 0) (tC (.bl false))) (tOp rIsAny (tVar 1) (tC (.bl false)))))) [some x, some y, none] H (.bl true) := by
        intro h e
        have := v_or (v_and (v_isN (v0 (z := none))) fun _ => v_isN (v1 (z := none))) fun _ => v_or (v_and (v_isB (k := true) (v0 (z := none))) fun _ => v_isB (k := true) (v1 (z := none))) fun _ => v_and (v_isB (k := false) (v0 (z := none))) fun _ => v_isB (k := false) (v1 (z := none))
        refine this.to ?_
        subst e
        rcases h with rfl | rfl | rfl <;> rfl
      refine sq_ifR (y = .non ∨ y = .bl true ∨ y = .bl false) (Ans.or (a_isN v1) fun _ => Ans.or (a_t (v_isB v1)) fun _ => a_t (v_isB v1)) (fun h => ?_) (fun h => ?_)
      · have e : x = y := by
          cases hy with
          | non => cases hx; rfl
          | bl b => cases hx; rfl
          | int i => simp at h
          | str i => simp at h
          | lst => simp at h
          | tup => simp at h
        exact first h e _ q
      · -- lists and tuples, item by item
        have seqs : ∀ (xs ys : List V) (ds : List PyData), DpAll K H xs ds → DpAll K H ys ds → ds.length ≤ 1000000 → (∀ e ∈ ds, Wid e) → PyData.depthAll ds + 1 ≤ n →
            (∀ {z : Option V}, Val (tCB (rLenK K) (tCons (tVar 0) tNil)) [some x, some y, z] H (.int (xs.length : Nat))) → (∀ {z : Option V}, Val (tCB (rLenK K) (tCons (tVar 1) tNil)) [some x, some y, z] H (.int (ys.length : Nat))) →
            (∀ (i : Nat) (v : V), xs[i]? = some v → Val (tOp (rIx K) (tVar 0) (tVar 2)) [some x, some y, some (.int (i : Nat))] H v) → (∀ (i : Nat) (v : V), ys[i]? = some v → Val (tOp (rIx K) (tVar 1) (tVar 2)) [some x, some y, some (.int (i : Nat))] H v) →
            tSeq (tIfS (tTest (tOp rNe (tCB (rLenK K) (tCons (tVar 0) tNil)) (tCB (rLenK K) (tCons (tVar 1) tNil)))) (tRet (tC (.bl false))) tNext)
              (tSeq (tFor (iRng1 (tCons (tCB (rLenK K) (tCons (tVar 1) tNil)) tNil)) (gName 2) (tIfS (tNot (tTruA K (tCall (spSame K n) [] E0 (tCons (tOp (rIx K) (tVar 0) (tVar 2)) (tCons (tOp (rIx K) (tVar 1) (tVar 2)) tNil))))) (tRet (tC (.bl false))) tNext))
              (tRet (tC (.bl true)))) { nx := fun x H' => Q V.non H', rt := Q } [some x, some y, none] H := by
          intro xs ys ds h1 h2 hw hall hdp l0 l1 g0 g1
          have e1 := dp_len h1
          have e2 := dp_len h2
          refine sq_no ((a_t (v_neI l0 l1)).to' ?_) ?_
          · rw [decide_eq_true (by omega)]
            rfl
          · refine sq_for (for_rng1 l1 ⟨by omega, by omega⟩ (fun i σ H' => H' = H ∧ ∃ z, σ = [some x, some y, z]) ⟨rfl, none, rfl⟩ ?_ ?_)
            · rintro i σ H' hi ⟨rfl, z, rfl⟩
              have hlt : i < ds.length := by omega
              obtain ⟨a, ea, da⟩ := dp_get h1 (List.getElem?_eq_getElem hlt)
              obtain ⟨b, eb, db⟩ := dp_get h2 (List.getElem?_eq_getElem hlt)
              have hm := List.getElem_mem hlt
              have hdm := mem_depth hm
              obtain ⟨m, rfl⟩ : ∃ m, n = m + 1 := ⟨n - 1, by omega⟩
              refine st_no (a_not (a_tru (k := true) fun Q' q' => un_call2 (g0 i a ea) (g1 i b eb) ⟨a, b, ds[i], rfl, da, db, hall _ hm, by omega, q'⟩)) ⟨rfl, _, rfl⟩
            · rintro σ H' ⟨rfl, z, rfl⟩
              exact q
        cases hy with
        | non => exact absurd (.inl rfl) h
        | bl b => cases b with
          | true => exact absurd (.inr (.inl rfl)) h
          | false => exact absurd (.inr (.inr rfl)) h
        | int i =>
          cases hx
          refine sq_yesR (a_tru (v_isi v1 val_c (.base (.int i)) (kit_ty (by decide +kernel)))) ?_
          refine v_and (v_isi v0 val_c (.base (.int i)) (kit_ty (by decide +kernel : kitB "int" "int" = some true))) (fun _ => v_and (v_notT (v_isi v0 val_c (.base (.int i)) (kit_ty (by decide +kernel : kitB "int" "bool" = some false)))) fun _ => v_eqI v0 v1) _ ?_
          rw [decide_eq_true rfl]
          exact q
        | str z =>
          cases hx
          refine sq_no (a_tru (v_isi v1 val_c (.base (.str z)) (kit_ty (by decide +kernel : kitB "str" "int" = some false)))) ?_
          refine sq_yesR (a_tru (v_isi v1 val_c (.base (.str z)) (kit_ty (by decide +kernel : kitB "str" "str" = some true)))) ?_
          refine v_and (v_isi v0 val_c (.base (.str z)) (kit_ty (by decide +kernel : kitB "str" "str" = some true))) (fun _ => v_eqS v0 v1) _ ?_
          rw [decide_eq_true rfl]
          exact q
        | @lst a ys ds hL hds =>
          cases hx with
          | @lst b xs _ hL2 hds2 =>
            cases hwd with
            | lst w1 w2 =>
              refine sq_no (a_tru (v_isi v1 val_c (ty_l hL) (kit_ty (by decide +kernel : kitB "list" "int" = some false)))) ?_
              refine sq_no (a_tru (v_isi v1 val_c (ty_l hL) (kit_ty (by decide +kernel : kitB "list" "str" = some false)))) ?_
              refine sq_no (a_or (k := false) (a_and (k := false) (l := false) (a_tru (v_isi v1 val_c (ty_l hL) (kit_ty (by decide +kernel : kitB "list" "tuple" = some false)))) fun z => Bool.noConfusion z) fun _ => a_and (l := false) (a_tru (v_isi v1 val_c (ty_l hL) (kit_ty (by decide +kernel : kitB "list" "list" = some true)))) fun _ => a_not (a_tru (v_isi v0 val_c (ty_l hL2) (kit_ty (by decide +kernel : kitB "list" "list" = some true))))) ?_
              have hd' : PyData.depthAll ds + 1 ≤ n := by simpa [PyData.depth] using hd
              exact seqs xs ys ds hds2 hds w1 w2 hd' (vl_l v0 hL2) (vl_l v1 hL) (fun i v e => vx_l v0 (val_var rfl) hL2 (atI_nat e)) fun i v e => vx_l v1 (val_var rfl) hL (atI_nat e)
        | @tup a ys ds hL hds =>
          cases hx with
          | @tup b xs _ hL2 hds2 =>
            cases hwd with
            | tup w1 w2 =>
              refine sq_no (a_tru (v_isi v1 val_c (ty_t hL) (kit_ty (by decide +kernel : kitB "tuple" "int" = some false)))) ?_
              refine sq_no (a_tru (v_isi v1 val_c (ty_t hL) (kit_ty (by decide +kernel : kitB "tuple" "str" = some false)))) ?_
              refine sq_no (a_or (k := false) (a_and (l := false) (a_tru (v_isi v1 val_c (ty_t hL) (kit_ty (by decide +kernel : kitB "tuple" "tuple" = some true)))) fun _ => a_not (a_tru (v_isi v0 val_c (ty_t hL2) (kit_ty (by decide +kernel : kitB "tuple" "tuple" = some true))))) fun _ => a_and (k := false) (l := false) (a_tru (v_isi v1 val_c (ty_t hL) (kit_ty (by decide +kernel : kitB "tuple" "list" = some false)))) fun z => Bool.noConfusion z) ?_
              have hd' : PyData.depthAll ds + 1 ≤ n := by simpa [PyData.depth] using hd
              exact seqs xs ys ds hds2 hds w1 w2 hd' (vl_t v0 hL2) (vl_t v1 hL) (fun i v e => vx_t v0 (val_var rfl) hL2 (atI_nat e)) fun i v e => vx_t v1 (val_var rfl) hL (atI_nat e)
end
end K54

namespace K54
open PySem PySem.Spec PyProof.Rows TL L2 L3
/-! ### rows as data -/
def rowD : Row → PyData
  | .split a b => .tuple [.str kSplit, .int a, .int b]
  | .across ws => .tuple [.str kAcross, .tuple (ws.map .int)]
  | .down ws => .tuple [.str kDown, .tuple (ws.map .int)]
  | .pages wss => .tuple [.str kPages, .tuple (wss.map fun ws => .tuple (ws.map .int))]
def toldD : List Row ⊕ Nat → PyData
  | .inl rs => .tuple [.str "rows", .tuple (rs.map rowD)]
  | .inr n => .tuple [.str "line", .int (n : Nat)]
def Small : Row → Prop
  | .split _ _ => True
  | .across ws => ws.length ≤ 1000000
  | .down ws => ws.length ≤ 1000000
  | .pages wss => wss.length ≤ 1000000 ∧ ∀ ws ∈ wss, ws.length ≤ 1000000
section
variable {K : PySem.W.Frag} {H : Hp}
theorem dp_nums {v : V} {ns : List Int} (h : NumsV K H v ns) : Dp K H v (.tuple (ns.map .int)) := by
  obtain ⟨p, rfl, hp⟩ := h
  exact .tup hp (dp_ints ns)
theorem dp_all {α : Type} {R : V → α → Prop} {g : α → PyData} (hg : ∀ v a, R v a → Dp K H v (g a)) : ∀ {vs : List V} {as : List α}, All2 R vs as → DpAll K H vs (as.map g)
  | [], [], _ => .nil
  | [], _ :: _, h => by have := h.1; simp at this
  | _ :: _, [], h => by have := h.1; simp at this
  | v :: vs, a :: as, h => .cons (hg v a (h.2 0 v a rfl rfl)) (dp_all hg ⟨by have := h.1; simpa using this, fun i u b x y => h.2 (i + 1) u b (by simpa using x) (by simpa using y)⟩)
theorem dp_row {v : V} : ∀ {r : Row}, RowV K H v r → Dp K H v (rowD r)
  | .split a b, ⟨p, e, h⟩ => by rw [e]; exact .tup h (.cons (.str _) (.cons (.int a) (.cons (.int b) .nil)))
  | .across ws, ⟨p, q, e, h, hq⟩ => by rw [e]; exact .tup h (.cons (.str _) (.cons (dp_nums hq) .nil))
  | .down ws, ⟨p, q, e, h, hq⟩ => by rw [e]; exact .tup h (.cons (.str _) (.cons (dp_nums hq) .nil))
  | .pages wss, ⟨p, q, e, h, t, qs, e2, ht, ha⟩ => by
    rw [e]
    refine .tup h (.cons (.str _) (.cons ?_ .nil))
    rw [e2]
    exact .tup ht (dp_all (g := fun ws => .tuple (ws.map .int)) (fun _ _ h => dp_nums h) ha)
theorem dp_told {v : V} : ∀ {o : List Row ⊕ Nat}, Told K H v o → Dp K H v (toldD o)
  | .inl rs, ⟨t, q, us, e, ht, hq, ha⟩ => by rw [e]; exact .tup ht (.cons (.str _) (.cons (.tup hq (dp_all (g := rowD) (fun _ _ h => dp_row h) ha)) .nil))
  | .inr n, ⟨t, e, ht⟩ => by rw [e]; exact .tup ht (.cons (.str _) (.cons (.int _) .nil))
end
theorem wid_ints {ns : List Int} (h : ns.length ≤ 1000000) : Wid (.tuple (ns.map .int)) := .tup (by rw [List.length_map]; exact h) fun d hd => by
  obtain ⟨n, _, rfl⟩ := List.mem_map.mp hd
  exact .int n
theorem wid_row : ∀ {r : Row}, Small r → Wid (rowD r)
  | .split a b, _ => .tup (by simp) fun d hd => by
    simp only [List.mem_cons, List.not_mem_nil, or_false] at hd
    rcases hd with rfl | rfl | rfl
    · exact .str _
    · exact .int _
    · exact .int _
  | .across ws, h => .tup (by simp) fun d hd => by
    simp only [List.mem_cons, List.not_mem_nil, or_false] at hd
    rcases hd with rfl | rfl
    · exact .str _
    · exact wid_ints h
  | .down ws, h => .tup (by simp) fun d hd => by
    simp only [List.mem_cons, List.not_mem_nil, or_false] at hd
    rcases hd with rfl | rfl
    · exact .str _
    · exact wid_ints h
  | .pages wss, h => .tup (by simp) fun d hd => by
    simp only [List.mem_cons, List.not_mem_nil, or_false] at hd
    rcases hd with rfl | rfl
    · exact .str _
    · refine .tup (by rw [List.length_map]; exact h.1) fun d hd => ?_
      obtain ⟨ws, hws, rfl⟩ := List.mem_map.mp hd
      exact wid_ints (h.2 ws hws)
theorem depthAll_le {n : Nat} : ∀ {ds : List PyData}, (∀ d ∈ ds, PyData.depth d ≤ n) → PyData.depthAll ds ≤ n
  | [], _ => by simp [PyData.depthAll]
  | d :: ds, h => by
    unfold PyData.depthAll
    exact Nat.max_le.mpr ⟨h d (by simp), depthAll_le fun x hx => h x (List.mem_cons_of_mem _ hx)⟩
theorem depth_tup {ds : List PyData} {n : Nat} (h : ∀ d ∈ ds, PyData.depth d ≤ n) : PyData.depth (.tuple ds) ≤ n + 1 := by
  unfold PyData.depth
  have := depthAll_le h
  omega
theorem depth_lst {ds : List PyData} {n : Nat} (h : ∀ d ∈ ds, PyData.depth d ≤ n) : PyData.depth (.list ds) ≤ n + 1 := by
  unfold PyData.depth
  have := depthAll_le h
  omega
theorem depth_nums (ns : List Int) : PyData.depth (.tuple (ns.map .int)) ≤ 1 := depth_tup fun d hd => by
  obtain ⟨n, _, rfl⟩ := List.mem_map.mp hd
  simp [PyData.depth]
theorem depth_row (r : Row) : PyData.depth (rowD r) ≤ 3 := by
  cases r with
  | split a b => refine depth_tup fun d hd => ?_; simp only [List.mem_cons, List.not_mem_nil, or_false] at hd; rcases hd with rfl | rfl | rfl <;> simp [PyData.depth]
  | across ws =>
    refine depth_tup fun d hd => ?_
    simp only [List.mem_cons, List.not_mem_nil, or_false] at hd
    rcases hd with rfl | rfl
    · simp [PyData.depth]
    · exact Nat.le_trans (depth_nums ws) (by decide)
  | down ws =>
    refine depth_tup fun d hd => ?_
    simp only [List.mem_cons, List.not_mem_nil, or_false] at hd
    rcases hd with rfl | rfl
    · simp [PyData.depth]
    · exact Nat.le_trans (depth_nums ws) (by decide)
  | pages wss =>
    refine depth_tup fun d hd => ?_
    simp only [List.mem_cons, List.not_mem_nil, or_false] at hd
    rcases hd with rfl | rfl
    · simp [PyData.depth]
    · refine depth_tup fun d hd => ?_
      obtain ⟨ws, _, rfl⟩ := List.mem_map.mp hd
      exact depth_nums ws
theorem depth_told (o : List Row ⊕ Nat) : PyData.depth (toldD o) ≤ 5 := by
  cases o with
  | inr n => refine depth_tup fun d hd => ?_; simp only [List.mem_cons, List.not_mem_nil, or_false] at hd; rcases hd with rfl | rfl <;> simp [PyData.depth]
  | inl rs =>
    refine depth_tup fun d hd => ?_
    simp only [List.mem_cons, List.not_mem_nil, or_false] at hd
    rcases hd with rfl | rfl
    · simp [PyData.depth]
    · refine depth_tup fun d hd => ?_
      obtain ⟨r, _, rfl⟩ := List.mem_map.mp hd
      exact depth_row r
theorem wid_told {o : List Row ⊕ Nat} (h : ∀ rs, o = .inl rs → rs.length ≤ 1000000 ∧ ∀ r ∈ rs, Small r) : Wid (toldD o) := by
  cases o with
  | inr n =>
    refine .tup (by simp) fun d hd => ?_
    simp only [List.mem_cons, List.not_mem_nil, or_false] at hd
    rcases hd with rfl | rfl
    · exact .str _
    · exact .int _
  | inl rs =>
    refine .tup (by simp) fun d hd => ?_
    simp only [List.mem_cons, List.not_mem_nil, or_false] at hd
    obtain ⟨h1, h2⟩ := h rs rfl
    rcases hd with rfl | rfl
    · exact .str _
    · refine .tup (by rw [List.length_map]; exact h1) fun d hd => ?_
      obtain ⟨r, hr, rfl⟩ := List.mem_map.mp hd
      exact wid_row (h2 r hr)
theorem small_wf : ∀ {r : Row}, r.wf → Small r
  | .split _ _, _ => trivial
  | .across ws, h => by have := h.2.1; show ws.length ≤ _; omega
  | .down ws, h => by have := h.2.1; show ws.length ≤ _; omega
  | .pages wss, h => ⟨by have := h.2.1; omega, fun ws hws => by have := (h.2.2 ws hws).2.1; omega⟩
theorem readNumbers_len {zs : List Str} {ns : List Int} (h : readNumbers zs = some ns) : ns.length = zs.length := by
  unfold readNumbers at h
  split at h
  · cases h
  · split at h
    · rw [← Option.some.inj h, List.length_map]
    · cases h
theorem small_parse {z : Str} {r : Row} (hz : z.length ≤ 100000) (h : parseRow z = some r) : Small r := by
  obtain ⟨k, f, ef⟩ : ∃ k f, fieldsOf z = k :: f := by
    cases e : fieldsOf z with
    | nil => exact absurd e (fields_ne z)
    | cons k f => exact ⟨k, f, rfl⟩
  have hl := fields_len z
  rw [ef, List.length_cons] at hl
  rw [parse_cons ef] at h
  split at h
  · unfold spl2 at h
    split at h
    · split at h
      · rw [← Option.some.inj h]; trivial
      · cases h
    · cases h
  · split at h
    · obtain ⟨ns, e, rfl⟩ := Option.map_eq_some_iff.mp h
      have := readNumbers_len e
      show ns.length ≤ _
      omega
    · split at h
      · obtain ⟨ns, e, rfl⟩ := Option.map_eq_some_iff.mp h
        have := readNumbers_len e
        show ns.length ≤ _
        omega
      · split at h
        · obtain ⟨wss, e, rfl⟩ := Option.map_eq_some_iff.mp h
          unfold readWalks at e
          have hall : ∀ g ∈ groups f, readNumbers g ≠ none := fun g hg en => by
            rw [allSome_none (List.mem_map.mpr ⟨g, hg, en⟩)] at e
            cases e
          obtain ⟨as, e1, e2, e3⟩ := allSome_all hall
          rw [e] at e1
          cases Option.some.inj e1
          have bd := groups_bd f
          refine ⟨by have := bd.1; omega, fun ws hws => ?_⟩
          obtain ⟨i, hi⟩ := List.mem_iff_getElem?.mp hws
          have hlt : i < (groups f).length := by
            rw [← e2]
            exact (List.getElem?_eq_some_iff.mp hi).1
          obtain ⟨a, ea, er⟩ := e3 i _ (List.getElem?_eq_getElem hlt)
          rw [hi] at ea
          cases Option.some.inj ea
          have := (bd.2 _ (List.getElem_mem hlt)).1
          have := readNumbers_len er
          omega
        · cases h
theorem paper_rows : ∀ {lines : List Str} {k : Nat} {rs : List Row}, readPaper k lines = .inl rs → rs.length = lines.length ∧ ∀ r ∈ rs, ∃ l ∈ lines, parseRow l = some r
  | [], k, rs, h => by
    cases h
    exact ⟨rfl, fun r hr => by simp at hr⟩
  | l :: lines, k, rs, h => by
    unfold readPaper at h
    split at h
    · cases h
    · rename_i row hrow
      split at h
      · rename_i rows hrows
        cases h
        obtain ⟨a, b⟩ := paper_rows hrows
        refine ⟨by simp [a], fun r hr => ?_⟩
        rcases List.mem_cons.mp hr with rfl | hr
        · exact ⟨l, by simp, hrow⟩
        · obtain ⟨l', h1, h2⟩ := b r hr
          exact ⟨l', List.mem_cons_of_mem _ h1, h2⟩
      · cases h
theorem wid_paper {lines : List Str} (h : ∀ z ∈ lines, z.length ≤ 100000) (hl : lines.length ≤ 100000) : Wid (toldD (readPaper 1 lines)) := wid_told fun rs e => by
  obtain ⟨a, b⟩ := paper_rows e
  refine ⟨by omega, fun r hr => ?_⟩
  obtain ⟨l, hl, hp⟩ := b r hr
  exact small_parse (h l hl) hp
end K54

namespace K54
open PySem PySem.Spec PyProof.Rows TL L2 L3
section
variable {P : Program} {w : World} {K : PySem.W.Frag} {mg : Str → Option Value} {base : Heap}
def spChanges (K : PySem.W.Frag) : Sp := fun vs H Q _ => ∃ (p q r : Addr) (ns : List Int) (us : List V) (rs : List Row), vs = [.ref p, .ref q, .ref r] ∧ SqL K H p (ns.map V.int) ∧ In1000 ns ∧ ns.length = 380 ∧ SqL K H q us ∧ All2 (RowV K H) us rs ∧ (∀ r ∈ rs, r.wf) ∧ SqL K H r ((rs.map printRow).map V.str) ∧ 1 ≤ rs.length ∧ rs.length ≤ 1000 ∧ ∀ H', Same H H' → Q (.bl true) H'
theorem sc__law_changes_hold : FnScope ["numbers", "rows", "lines", "way", "number", "more", "low", "high", "given", "at", "other", "kept", "due"] ["numbers", "rows", "lines"] (defScope (topS 28)) := ⟨rfl, rfl, rfl, by decide +kernel, rfl, by decide +kernel, by decide +kernel⟩
theorem lines_small {rs : List Row} (h : ∀ r ∈ rs, r.wf) : ∀ z ∈ rs.map printRow, z.length ≤ 7000 := fun z hz => by
  obtain ⟨r, hr, rfl⟩ := List.mem_map.mp hz
  exact pr_len (h r hr)
theorem strs_wid {zs : List Str} (h : zs.length ≤ 1000000) : Wid (.list (zs.map .str)) := .lst (by rw [List.length_map]; exact h) fun d hd => by
  obtain ⟨n, _, rfl⟩ := List.mem_map.mp hd
  exact .str n
theorem depth_strs (zs : List Str) : PyData.depth (.list (zs.map .str)) ≤ 1 := depth_lst fun d hd => by
  obtain ⟨n, _, rfl⟩ := List.mem_map.mp hd
  simp [PyData.depth]
theorem told_mono {H H' : Hp} {v : V} (t : TSm K H H') : ∀ {o : List Row ⊕ Nat}, Told K H v o → Told K H' v o
  | .inl _, ⟨x, q, us, e, h1, h2, h3⟩ => ⟨x, q, us, e, t _ _ h1, t _ _ h2, h3.mono fun _ _ h => h.mono t⟩
  | .inr _, ⟨x, e, h⟩ => ⟨x, e, t _ _ h⟩
theorem map_set {α : Type} (f : α → V) (l : List α) (n : Nat) (a : α) : (l.map f).set n (f a) = (l.set n a).map f := (List.map_set ..).symm
theorem ok_changes {f : Addr} {fd : FuncData} (F : Fun K "_law_changes_hold" "_law_changes_hold" (topS 28) f fd) (T : Txt mg) {f1 f2 f3 f4 : Addr} {d1 d2 d3 d4 : FuncData} (G__law_spoilt : Cal P w K mg base 1 "_law_spoilt" ["line", "way", "number"] spSpoilt f1 d1) (G__law_due : Cal P w K mg base 4 "_law_due" ["rows", "lines", "spots"] (spDue K) f2 d2)
    (G__law_told : Cal P w K mg base 8 "_law_told" ["lines"] (spTold K) f3 d3) (G__law_same : Cal P w K mg base 8 "_law_same" ["told", "due"] (spSame K 8) f4 d4) :
    FnOk P w K mg base (L2.CX P w) 9 f fd ["numbers", "rows", "lines"] (spChanges K) := by
  refine F.okX sc__law_changes_hold (fun vs H Q E h => ?_) (fun cdv A outer s H vs Q E hr h => ?_)
  · obtain ⟨p, q, r, ns, us, rs, rfl, _⟩ := h
    rfl
  · obtain ⟨p, q, r, ns, us, rs, rfl, hp, hin, hnl, hq, ha, hwf, hL, h1, h2, k⟩ := h
    refine ⟨_, (pss_cons (ps_for (passes_of rfl) rfl (pi_range1 rfl T.z_range (pa_int pa_nil)) (pg_name (i := 3) sc__law_changes_hold.nd rfl (by first | exact Or.inl rfl | exact Or.inr rfl))
   (pss_cons (ps_set (i := 4) sc__law_changes_hold.nd rfl (by first | exact Or.inl rfl | exact Or.inr rfl) (pe_ix (ixK K rfl) (pv 0) (pe_op (opAddK K rfl) pe_int (pv 3)) (fun _ _ => rfl)))
  (pss_cons (ps_set (i := 5) sc__law_changes_hold.nd rfl (by first | exact Or.inl rfl | exact Or.inr rfl) (pe_ix (ixK K rfl) (pv 0) (pe_op (opAddK K rfl) pe_int (pv 3)) (fun _ _ => rfl)))
  (pss_cons (ps_set (i := 6) sc__law_changes_hold.nd rfl (by first | exact Or.inl rfl | exact Or.inr rfl) (pe_op op_mod (pe_callTy call_intOf (by rfl) T.z_int (by decide +kernel) (pa_cons (pv 4) pa_nil)) (pe_callB (call_lenK K rfl) (by rfl) T.z_len PySem.boot_len (pa_cons (pv 2) pa_nil))))
  (pss_cons (ps_set (i := 7) sc__law_changes_hold.nd rfl (by first | exact Or.inl rfl | exact Or.inr rfl) (pe_op (opAddK K rfl) (pe_op (opAddK K rfl) (pv 6) pe_int) (pe_op op_mod (pe_callTy call_intOf (by rfl) T.z_int (by decide +kernel) (pa_cons (pe_op op_fdiv (pv 4) pe_int) pa_nil)) pe_int)))
  (pss_cons (ps_if (pt_cmpR opEq (pe_op op_mod (pe_callTy call_intOf (by rfl) T.z_int (by decide +kernel) (pa_cons (pe_op (opAddK K rfl) (pv 3) (pe_ix (ixK K rfl) (pv 0) pe_int (fun _ _ => rfl))) pa_nil)) pe_int) pe_int (nomark _)) (pss_cons (ps_set (i := 6) sc__law_changes_hold.nd rfl (by first | exact Or.inl rfl | exact Or.inr rfl) pe_int)
  (pss_one (ps_set (i := 7) sc__law_changes_hold.nd rfl (by first | exact Or.inl rfl | exact Or.inr rfl) (pe_callB (call_lenK K rfl) (by rfl) T.z_len PySem.boot_len (pa_cons (pv 2) pa_nil))))) pss_nil)
  (pss_cons (ps_set (i := 8) sc__law_changes_hold.nd rfl (by first | exact Or.inl rfl | exact Or.inr rfl) (pe_slice (slAnyK K rfl) (pv 2) (po_some (pv 6)) (po_some (pv 7))))
  (pss_cons (ps_set (i := 9) sc__law_changes_hold.nd rfl (by first | exact Or.inl rfl | exact Or.inr rfl) (pe_op op_mod (pe_callTy call_intOf (by rfl) T.z_int (by decide +kernel) (pa_cons (pe_op op_fdiv (pv 4) pe_int) pa_nil)) (pe_callB (call_lenK K rfl) (by rfl) T.z_len PySem.boot_len (pa_cons (pv 8) pa_nil))))
  (pss_cons (ps_set (i := 10) sc__law_changes_hold.nd rfl (by first | exact Or.inl rfl | exact Or.inr rfl) (pe_op op_mod (pe_callTy call_intOf (by rfl) T.z_int (by decide +kernel) (pa_cons (pv 5) pa_nil)) (pe_callB (call_lenK K rfl) (by rfl) T.z_len PySem.boot_len (pa_cons (pv 8) pa_nil))))
  (pss_cons (ps_asg (pe_call G__law_spoilt.ok (hr.mono (by first | decide | exact Nat.le_refl _)) rfl G__law_spoilt.mg G__law_spoilt.kp G__law_spoilt.bi .nil passL (pa_cons (pe_ix (ixK K rfl) (pv 8) (pv 9) (fun _ _ => rfl)) (pa_cons (pv 3) (pa_cons (pe_op op_fdiv (pv 4) pe_int) pa_nil)))) (pg_sub (pv 8) (pv 9) set_list))
  (pss_cons (ps_if (PW.pt (pw_and (pt_cmpR opEq (pe_op op_mod (pe_callTy call_intOf (by rfl) T.z_int (by decide +kernel) (pa_cons (pe_op op_fdiv (pv 5) pe_int) pa_nil)) pe_int) pe_int (nomark _)) (pw_and1 (pt_cmpR opNe (pv 10) (pv 9) (nomark _))))) (pss_one (ps_asg (pe_call G__law_spoilt.ok (hr.mono (by first | decide | exact Nat.le_refl _)) rfl G__law_spoilt.mg G__law_spoilt.kp G__law_spoilt.bi .nil passL (pa_cons (pe_ix (ixK K rfl) (pv 8) (pv 10) (fun _ _ => rfl)) (pa_cons (pe_op op_mod (pe_callTy call_intOf (by rfl) T.z_int (by decide +kernel) (pa_cons (pe_op op_fdiv (pv 5) pe_int) pa_nil)) pe_int) (pa_cons (pe_op op_fdiv (pv 5) pe_int) pa_nil)))) (pg_sub (pv 8) (pv 10) set_list))) pss_nil)
  (pss_cons (ps_set (i := 11) sc__law_changes_hold.nd rfl (by first | exact Or.inl rfl | exact Or.inr rfl) (pe_callTy (call_listK K rfl) (by rfl) T.z_list (by decide +kernel) (pa_cons (pv 8) pa_nil)))
  (pss_cons (ps_set (i := 12) sc__law_changes_hold.nd rfl (by first | exact Or.inl rfl | exact Or.inr rfl) (pe_call G__law_due.ok (hr.mono (by first | decide | exact Nat.le_refl _)) rfl G__law_due.mg G__law_due.kp G__law_due.bi .nil passL (pa_cons (pe_slice (slAnyK K rfl) (pv 1) (po_some (pv 6)) (po_some (pv 7))) (pa_cons (pv 11) (pa_cons (pe_lst (pa_cons (pv 9) (pa_cons (pv 10) pa_nil))) pa_nil)))))
  (pss_one (ps_if (PW.pt (pw_or (pt_not (pt_truK K rfl (pe_call G__law_same.ok (hr.mono (by first | decide | exact Nat.le_refl _)) rfl G__law_same.mg G__law_same.kp G__law_same.bi .nil passL (pa_cons (pe_call G__law_told.ok (hr.mono (by first | decide | exact Nat.le_refl _)) rfl G__law_told.mg G__law_told.kp G__law_told.bi .nil passL (pa_cons (pv 8) pa_nil)) (pa_cons (pv 12) pa_nil))))) (pw_or1 (pt_not (pt_truK K rfl (pe_call G__law_same.ok (hr.mono (by first | decide | exact Nat.le_refl _)) rfl G__law_same.mg G__law_same.kp G__law_same.bi .nil passL (pa_cons (pv 8) (pa_cons (pv 11) pa_nil)))))))) (pss_one (ps_ret pe_bl)) pss_nil)))))))))))))))
  (pss_one (ps_ret pe_bl))), ?_⟩
    have get : ∀ j : Nat, j < 380 → ∃ n, atI (ns.map V.int) (j : Int) = some (.int n) ∧ 0 ≤ n ∧ n < 1000 := fun j hj => ⟨ns[j], atI_nat (by rw [List.getElem?_map, List.getElem?_eq_getElem (by omega)]; rfl), hin _ (List.getElem_mem _)⟩
    have mapL : ((rs.map printRow).map V.str).length = rs.length := by rw [List.length_map, List.length_map]
    refine sq_for (for_rng1 (n := 27) val_c ⟨by decide, by decide⟩ (fun i σ H' => Same H H' ∧ ∃ y3 y4 y5 y6 y7 y8 y9 y10 y11 y12, σ = [some (.ref p), some (.ref q), some (.ref r), y3, y4, y5, y6, y7, y8, y9, y10, y11, y12]) ⟨Same.refl _, none, none, none, none, none, none, none, none, none, none, rfl⟩ ?_ ?_)
    · rintro i σ H1 hi ⟨s1, y3, y4, y5, y6, y7, y8, y9, y10, y11, y12, rfl⟩
      obtain ⟨a, ea, ha0⟩ := get (324 + i) (by omega)
      obtain ⟨b, eb, hb0⟩ := get (351 + i) (by omega)
      obtain ⟨c, ec, hc0⟩ := get 1 (by omega)
      have e324 : (324 : Int) + (i : Int) = ((324 + i : Nat) : Int) := by omega
      have e351 : (351 : Int) + (i : Int) = ((351 + i : Nat) : Int) := by omega
      have hp1 := same_l s1 hp
      have hL1 := same_l s1 hL
      refine sq_set (vx_l (val_var rfl) (v_add (j := (i : Nat)) val_c (val_var rfl)) hp1 (by rw [e324]; exact ea)) ?_
      refine sq_set (vx_l (val_var rfl) (v_add (j := (i : Nat)) val_c (val_var rfl)) hp1 (by rw [e351]; exact eb)) ?_
      refine sq_set (v_mod (v_int (i := a) (val_var rfl)) (vl_l (val_var rfl) hL1) (by rw [mapL]; omega)) ?_
      rw [mapL]
      have l0 : 0 ≤ a % (rs.length : Nat) := Int.emod_nonneg _ (by omega)
      have l1 : a % (rs.length : Nat) < (rs.length : Nat) := Int.emod_lt_of_pos _ (by omega)
      generalize a % (rs.length : Nat) = lo at l0 l1 ⊢
      refine sq_set (v_add (v_add (i := lo) (val_var rfl) val_c) (v_mod (v_int (v_div (i := a) (val_var rfl) val_c (by decide))) val_c (by decide))) ?_
      generalize hhi : lo + 1 + a / 16 % 3 = hi0
      refine sq_ifW (W := fun σ' H' => ∃ lo hi : Nat, lo < rs.length ∧ lo < hi ∧ H' = H1 ∧ σ' = [some (.ref p), some (.ref q), some (.ref r), some (.int (i : Nat)), some (.int a), some (.int b), some (.int (lo : Nat)), some (.int (hi : Nat)), y8, y9, y10, y11, y12])
        (((i : Int) + c) % 9 = 0) (a_eqI (v_mod (v_int (v_add (i := (i : Nat)) (val_var rfl) (vx_l (val_var rfl) val_c hp1 ec))) val_c (by decide)) val_c) (fun _ N hN => ?_) (fun _ => ?_) ?_
      · refine sq_set val_c (st_set (vl_l (val_var rfl) hL1) (hN _ _ ⟨0, rs.length, by omega, by omega, rfl, ?_⟩))
        rw [mapL]
        rfl
      · refine ⟨lo.toNat, hi0.toNat, by omega, by omega, rfl, ?_⟩
        have e1 : ((lo.toNat : Nat) : Int) = lo := Int.toNat_of_nonneg l0
        have e2 : ((hi0.toNat : Nat) : Int) = hi0 := Int.toNat_of_nonneg (by omega)
        rw [e1, e2]
        rfl
      · clear l0 l1 hhi lo hi0
        rintro σ' H' ⟨lo, hi, hlo, hhi, rfl, rfl⟩
        -- the stretch
        have cutL := cut_gen ((rs.map printRow).map V.str) (a := lo) (b := hi) (by rw [mapL]; omega)
        rw [mapL] at cutL
        have cutU := cut_gen us (a := lo) (b := hi) (by rw [ha.1]; omega)
        rw [ha.1] at cutU
        have ha0 : All2 (RowV K H') ((us.drop lo).take (min hi rs.length - lo)) ((rs.drop lo).take (min hi rs.length - lo)) := ((ha.drop lo).take _).mono fun _ _ h => h.mono (tsm_same s1)
        have hwf0 : ∀ r ∈ (rs.drop lo).take (min hi rs.length - lo), r.wf := fun r hr => hwf r (List.mem_of_mem_drop (List.mem_of_mem_take hr))
        have elen : ((rs.drop lo).take (min hi rs.length - lo)).length = min hi rs.length - lo := by
          rw [List.length_take, List.length_drop]
          omega
        have hm1 : 1 ≤ ((rs.drop lo).take (min hi rs.length - lo)).length ∧ ((rs.drop lo).take (min hi rs.length - lo)).length ≤ 1000 := by rw [elen]; omega
        have cutL2 : cutV ((rs.map printRow).map V.str) (some ((lo : Nat) : Int)) (some ((hi : Nat) : Int)) = (((rs.drop lo).take (min hi rs.length - lo)).map printRow).map V.str := by
          rw [cutL, List.map_take, List.map_take, List.map_drop, List.map_drop]
        refine sq_asg (sl_list' (K := K) (lo := some (lo : Nat)) (hi := some (hi : Nat)) (val_var rfl) hL1 (fun Q q => po_v (val_var rfl) q) (fun Q q => po_v (val_var rfl) q) fun g hg => ?_)
        rw [cutL2]
        generalize (rs.drop lo).take (min hi rs.length - lo) = rs0 at ha0 hwf0 hm1
        have s2 : Same H' (upd H' g (.lst ((rs0.map printRow).map V.str))) := same_new hg
        have hG : upd H' g (.lst ((rs0.map printRow).map V.str)) g = some (.lst ((rs0.map printRow).map V.str)) := upd_same
        have hgH : H' g = none := hg
        generalize upd H' g (.lst ((rs0.map printRow).map V.str)) = H2 at s2 hG ⊢
        have mG : ((rs0.map printRow).map V.str).length = rs0.length := by rw [List.length_map, List.length_map]
        refine sq_set (v_mod (v_int (v_div (i := a) (val_var rfl) val_c (by decide))) (vl_l (val_var rfl) (.inl (.inl hG))) (by rw [mG]; omega)) ?_
        refine sq_set (v_mod (v_int (i := b) (val_var rfl)) (vl_l (val_var rfl) (.inl (.inl hG))) (by rw [mG]; omega)) ?_
        rw [mG]
        obtain ⟨att, eat, hat⟩ : ∃ n : Nat, a / 3 % (rs0.length : Nat) = (n : Int) ∧ n < rs0.length := by
          have h0 : 0 ≤ a / 3 % (rs0.length : Nat) := Int.emod_nonneg _ (by omega)
          have h1 : a / 3 % (rs0.length : Nat) < (rs0.length : Nat) := Int.emod_lt_of_pos _ (by omega)
          exact ⟨(a / 3 % (rs0.length : Nat)).toNat, (Int.toNat_of_nonneg h0).symm, by omega⟩
        obtain ⟨ott, eot, hot⟩ : ∃ n : Nat, b % (rs0.length : Nat) = (n : Int) ∧ n < rs0.length := by
          have h0 : 0 ≤ b % (rs0.length : Nat) := Int.emod_nonneg _ (by omega)
          have h1 : b % (rs0.length : Nat) < (rs0.length : Nat) := Int.emod_lt_of_pos _ (by omega)
          exact ⟨(b % (rs0.length : Nat)).toNat, (Int.toNat_of_nonneg h0).symm, by omega⟩
        rw [eat, eot]
        have zat : ∀ j, j < rs0.length → ∃ z, (rs0.map printRow)[j]? = some z ∧ z.length ≤ 7000 := fun j hj => ⟨printRow rs0[j], by rw [List.getElem?_map, List.getElem?_eq_getElem hj]; rfl, pr_len (hwf0 _ (List.getElem_mem hj))⟩
        obtain ⟨z1, ez1, hz1⟩ := zat att hat
        obtain ⟨z2, ez2, hz2⟩ := zat ott hot
        refine sq_asgG (un_call3 (vx_l (val_var rfl) (val_var rfl) (.inl (.inl hG)) (atI_nat (by rw [List.getElem?_map, ez1]; rfl))) (val_var rfl) (v_div (i := a) (val_var rfl) val_c (by decide)) ⟨z1, (i : Nat), _, rfl, hz1, by omega, fun y1 H3 s3 hy1 => ?_⟩)
        refine un_subU (val_var rfl) (val_var rfl) (s3 _ _ hG) (by rw [mG]; exact hat) ?_
        rw [map_set]
        have s03 : Same H' (upd H3 g (.lst (((rs0.map printRow).set att y1).map V.str))) := same_mut (s2.trans s3) hgH
        have hG3 : upd H3 g (.lst (((rs0.map printRow).set att y1).map V.str)) g = some (.lst (((rs0.map printRow).set att y1).map V.str)) := upd_same
        generalize upd H3 g (.lst (((rs0.map printRow).set att y1).map V.str)) = H4 at s03 hG3 ⊢
        -- the second change
        refine sq_ifW (W := fun σ' Hw => ∃ zs2 : List Str, Same H' Hw ∧ Hw g = some (.lst (zs2.map V.str)) ∧ zs2.length = rs0.length ∧ (∀ z ∈ zs2, z.length ≤ 100000) ∧ (∀ j : Nat, j ≠ att → j ≠ ott → zs2[j]? = (rs0.map printRow)[j]?) ∧
            σ' = [some (.ref p), some (.ref q), some (.ref r), some (.int (i : Nat)), some (.int a), some (.int b), some (.int (lo : Nat)), some (.int (hi : Nat)), some (.ref g), some (.int (att : Nat)), some (.int (ott : Nat)), y11, y12])
          (b / 5 % 2 = 1 ∧ ¬ (ott : Int) = (att : Int)) (Ans.and (a_eqI (v_mod (v_int (v_div (i := b) (val_var rfl) val_c (by decide))) val_c (by decide)) val_c) fun _ => (a_t (v_neI (i := (ott : Nat)) (j := (att : Nat)) (val_var rfl) (val_var rfl))).to' (by rw [decide_not])) (fun hh N hN => ?_) (fun _ => ?_) ?_
        · have hne : att ≠ ott := fun e => hh.2 (by rw [e])
          have ez2' : ((rs0.map printRow).set att y1)[ott]? = some z2 := by rw [List.getElem?_set_ne hne]; exact ez2
          refine un_asgG (un_call3 (vx_l (val_var rfl) (val_var rfl) (.inl (.inl hG3)) (atI_nat (by rw [List.getElem?_map, ez2']; rfl))) (v_mod (v_int (v_div (i := b) (val_var rfl) val_c (by decide))) val_c (by decide)) (v_div (i := b) (val_var rfl) val_c (by decide)) ⟨z2, _, _, rfl, hz2, by omega, fun y2 H5 s5 hy2 => ?_⟩)
          refine un_subU (val_var rfl) (val_var rfl) (s5 _ _ hG3) (by rw [List.length_map, List.length_set, List.length_map]; exact hot) (hN _ _ ⟨((rs0.map printRow).set att y1).set ott y2, same_mut (s03.trans s5) hgH, by rw [upd_same, map_set], by rw [List.length_set, List.length_set, List.length_map], ?_, ?_, rfl⟩)
          · intro z hz
            rcases List.mem_or_eq_of_mem_set hz with hz | rfl
            · rcases List.mem_or_eq_of_mem_set hz with hz | rfl
              · exact Nat.le_trans (lines_small hwf0 z hz) (by decide)
              · exact hy1
            · exact hy2
          · intro j n1 n2
            rw [List.getElem?_set_ne (fun e => n2 e.symm), List.getElem?_set_ne (fun e => n1 e.symm)]
        · refine ⟨(rs0.map printRow).set att y1, s03, hG3, by rw [List.length_set, List.length_map], ?_, ?_, rfl⟩
          · intro z hz
            rcases List.mem_or_eq_of_mem_set hz with hz | rfl
            · exact Nat.le_trans (lines_small hwf0 z hz) (by decide)
            · exact hy1
          · intro j n1 n2
            rw [List.getElem?_set_ne (fun e => n1 e.symm)]
        · rintro σ5 H5 ⟨zs2, s5, hG5, hl5, hz5, hun, rfl⟩
          have hr5 := same_l s5 (same_l s1 hq)
          refine sq_asg (un_cb1 (val_var (v := .ref g) rfl _ ⟨g, _, rfl, .inl (.inl (.inl hG5)), fun kp hkp => ?_⟩))
          have s6 : Same H5 (upd H5 kp (.lst (zs2.map V.str))) := same_new hkp
          have hK6 : upd H5 kp (.lst (zs2.map V.str)) kp = some (.lst (zs2.map V.str)) := upd_same
          generalize upd H5 kp (.lst (zs2.map V.str)) = H6 at s6 hK6 ⊢
          have hG6 := s6 _ _ hG5
          have s06 : Same H' H6 := s5.trans s6
          have e7 : readPaper 1 zs2 = readPaper 1 zs2 := rfl
          have dueIs : ∀ sp' : List Nat, sp'.Perm [att, ott] → sp'.Pairwise (· ≤ ·) → dueGo rs0 zs2 sp' = readPaper 1 zs2 := by
            intro sp' hperm hpw
            refine (due_is hl5 (fun n hn => ?_) hpw fun j l r hj h1 h2 => ?_).symm
            · have := hperm.mem_iff.mp hn
              simp only [List.mem_cons, List.not_mem_nil, or_false] at this
              rcases this with rfl | rfl
              · exact hat
              · exact hot
            · have n1 : j ≠ att := fun e => hj (hperm.mem_iff.mpr (by simp [e]))
              have n2 : j ≠ ott := fun e => hj (hperm.mem_iff.mpr (by simp [e]))
              rw [hun j n1 n2, List.getElem?_map, h2] at h1
              cases Option.some.inj h1
              exact parse_print (hwf0 r (List.mem_of_getElem? h2))
          refine sq_asg (un_callS3 (sl_list' (K := K) (lo := some (lo : Nat)) (hi := some (hi : Nat)) (val_var rfl) (same_l s6 hr5) (fun Q q => po_v (val_var rfl) q) (fun Q q => po_v (val_var rfl) q) fun sl hsl => ?_))
          rw [cutU]
          have s7 : Same H6 (upd H6 sl (.lst ((us.drop lo).take (min hi rs.length - lo)))) := same_new hsl
          have hS7 : upd H6 sl (.lst ((us.drop lo).take (min hi rs.length - lo))) sl = some (.lst ((us.drop lo).take (min hi rs.length - lo))) := upd_same
          generalize (us.drop lo).take (min hi rs.length - lo) = us0 at ha0 s7 hS7 ⊢
          generalize upd H6 sl (.lst us0) = H7 at s7 hS7 ⊢
          refine val_var (v := .ref kp) rfl _ (un_lst (ta_val (val_var rfl) (ta_val (val_var rfl) ⟨by show 2 ≤ sizeLine; decide, fun sp hsp => ?_⟩)))
          have s8 : Same H7 (upd H7 sp (.lst [V.int (att : Nat), V.int (ott : Nat)])) := same_new hsp
          have hS8 : upd H7 sp (.lst [V.int (att : Nat), V.int (ott : Nat)]) sp = some (.lst (([att, ott].map fun n => ((n : Nat) : Int)).map V.int)) := upd_same
          refine (show spDue K [.ref sl, .ref kp, .ref sp] (upd H7 sp (.lst [V.int (att : Nat), V.int (ott : Nat)])) _ _ from ?_)
          generalize upd H7 sp (.lst [V.int (att : Nat), V.int (ott : Nat)]) = H8 at s8 hS8 ⊢
          have s68 : Same H6 H8 := s7.trans s8
          refine ⟨sl, kp, sp, us0, rs0, zs2, [att, ott], rfl, .inl (.inl (s8 _ _ hS7)), ha0.mono fun _ _ h => h.mono (tsm_same (s06.trans s68)), .inl (.inl (s68 _ _ hK6)), hz5, hl5, by omega, .inl (.inl hS8), ?_, by show 2 ≤ 1000; decide, fun sp' hperm hpw dv H9 s9 hdv => ?_⟩
          · intro n hn
            simp only [List.mem_cons, List.not_mem_nil, or_false] at hn
            rcases hn with rfl | rfl
            · exact hat
            · exact hot
          rw [dueIs sp' hperm hpw] at hdv
          have s69 : Same H6 H9 := s68.trans s9
          have hG9 := s69 _ _ hG6
          have hK9 := s69 _ _ hK6
          refine st_noS (AnsS.or2 (AnsS.not (b := true) (AnsS.tru fun Q' q' => un_callS2 (un_call1 (val_var (v := .ref g) rfl) ⟨g, zs2, rfl, .inl (.inl (.inl hG9)), hz5, by omega, fun tv H10 s10 htv => ?_⟩))) fun H10 s10 => AnsS.not (b := true) (AnsS.tru fun Q' q' => un_call2 (val_var (v := .ref g) rfl) (val_var (v := .ref kp) rfl) ⟨_, _, .list (zs2.map .str), rfl, .lst (.inl (.inl (s10 _ _ hG9))) (dp_strs zs2), .lst (.inl (.inl (s10 _ _ hK9))) (dp_strs zs2), strs_wid (by omega), Nat.le_trans (depth_strs zs2) (by decide), q' _ (Same.refl _)⟩)) fun H11 s11 => ?_
          · exact val_var (v := dv) rfl _ ⟨_, _, toldD (readPaper 1 zs2), rfl, dp_told htv, dp_told (told_mono (tsm_same s10) hdv), wid_paper hz5 (by omega), Nat.le_trans (depth_told _) (by decide), q' _ s10⟩
          · exact ⟨s1.trans ((s06.trans s69).trans s11), _, _, _, _, _, _, _, _, _, _, rfl⟩
    · rintro σ H1 ⟨s1, y3, y4, y5, y6, y7, y8, y9, y10, y11, y12, rfl⟩
      exact k H1 s1
end
end K54

namespace K54
open PySem PySem.Spec PyProof.Rows TL L2 L3
section
variable {P : Program} {w : World} {K : PySem.W.Frag} {mg : Str → Option Value} {base : Heap} {C : Addr}
def spLaw (K : PySem.W.Frag) : Sp := fun vs H Q _ => ∃ (a : Addr) (cs : List Int), vs = [.ref a] ∧ SqL K H a (cs.map V.int) ∧ cs.length ≤ 63 ∧ ∀ H', Q (.bl true) H'
theorem sc_law : FnScope ["script", "numbers", "rows", "k", "lines", "row", "given", "told", "due"] ["script"] (defScope (topS 29)) := ⟨rfl, rfl, rfl, by decide +kernel, rfl, by decide +kernel, by decide +kernel⟩
theorem paper_print {rs : List Row} (h : ∀ r ∈ rs, r.wf) : readPaper 1 (rs.map printRow) = .inl rs := paper_ok (by rw [List.length_map]) fun j l r h1 h2 => by
  rw [List.getElem?_map, h2] at h1
  cases Option.some.inj h1
  exact parse_print (h r (List.mem_of_getElem? h2))
theorem wid_rows {rs : List Row} (h : ∀ r ∈ rs, r.wf) (hl : rs.length ≤ 1000) : Wid (.list (rs.map rowD)) := .lst (by rw [List.length_map]; omega) fun d hd => by
  obtain ⟨r, hr, rfl⟩ := List.mem_map.mp hd
  exact wid_row (small_wf (h r hr))
theorem depth_rows (rs : List Row) : PyData.depth (.list (rs.map rowD)) ≤ 4 := depth_lst fun d hd => by
  obtain ⟨r, _, rfl⟩ := List.mem_map.mp hd
  exact depth_row r
theorem dp_rows {H : Hp} {a : Addr} {us : List V} {rs : List Row} (h : SqL K H a us) (ha : All2 (RowV K H) us rs) : Dp K H (.ref a) (.list (rs.map rowD)) := .lst h (dp_all (g := rowD) (fun _ _ h => dp_row h) ha)
theorem dp_lines {H : Hp} {a : Addr} {zs : List Str} (h : SqL K H a (zs.map V.str)) : Dp K H (.ref a) (.list (zs.map .str)) := .lst h (dp_strs zs)
theorem ok_law {f : Addr} {fd : FuncData} (F : Fun K "law" "law" (topS 29) f fd) (T : Txt mg) {f1 f2 f3 f4 f5 f6 f7 f8 : Addr} {d1 d2 d3 d4 d5 d6 d7 d8 : FuncData} (G__law_numbers : Cal P w K mg base 1 "_law_numbers" ["script", "count"] (spNumbers K) f1 d1) (G__law_paper_row : Cal P w K mg base 2 "_law_paper_row" ["numbers", "at"] (spPaperRow K) f2 d2)
    (G__law_row_line : Cal P w K mg base 1 "_law_row_line" ["row"] (spPrintRow K) f3 d3) (G_print_paper : Cal P w K mg base 3 "print_paper" ["rows"] (spPrintPaper K) f4 d4) (G__law_same : Cal P w K mg base 8 "_law_same" ["told", "due"] (spSame K 8) f5 d5)
    (G__law_told : Cal P w K mg base 8 "_law_told" ["lines"] (spTold K) f6 d6) (G_read_paper : Cal P w K mg base 7 "read_paper" ["lines"] (spReadPaper K C) f7 d7) (G__law_changes_hold : Cal P w K mg base 9 "_law_changes_hold" ["numbers", "rows", "lines"] (spChanges K) f8 d8) :
    FnOk P w K mg base (L2.CX P w) 10 f fd ["script"] (spLaw K) := by
  refine F.okX sc_law (fun vs H Q E h => ?_) (fun cdv A outer s H vs Q E hr h => ?_)
  · obtain ⟨a, cs, rfl, _⟩ := h
    rfl
  · obtain ⟨a, cs, rfl, hS, hcs, k⟩ := h
    refine ⟨_, (pss_cons (ps_set (i := 1) sc_law.nd rfl (by first | exact Or.inl rfl | exact Or.inr rfl) (pe_call G__law_numbers.ok (hr.mono (by first | decide | exact Nat.le_refl _)) rfl G__law_numbers.mg G__law_numbers.kp G__law_numbers.bi .nil passL (pa_cons (pv 0) (pa_int pa_nil))))
  (pss_cons (ps_setLc (i := 2) (own := [("k", 3)]) (g := (gName 3)) rfl sc_law.nd rfl rfl (sw_true rfl rfl rfl (by decide +kernel)) (pi_range1 rfl T.z_range (pa_cons (pe_op op_mod (pe_callTy call_intOf (by rfl) T.z_int (by decide +kernel) (pa_cons (pe_ix (ixK K rfl) (pv 1) pe_int (fun _ _ => rfl)) pa_nil)) pe_int) pa_nil)) (blkOk_by (N := ["script", "numbers", "rows", "k", "lines", "row", "given", "told", "due"]) (sc := defScope (topS 29)) (by decide +kernel)) (fun _ _ _ _ _ => (pg_name (i := 3) sc_law.nd rfl (by first | exact Or.inl rfl | exact Or.inr rfl))) (fun _ _ _ _ _ => pts_nil) (fun _ _ _ _ _ => (pe_call G__law_paper_row.ok (hr.mono (by first | decide | exact Nat.le_refl _)) rfl G__law_paper_row.mg G__law_paper_row.kp G__law_paper_row.bi .nil passL (pa_cons (pv 1) (pa_cons (pe_op (opAddK K rfl) pe_int (pe_op opMul pe_int (pv 3))) pa_nil)))))
  (pss_cons (ps_if (pt_cmpR opEq (pe_op op_mod (pe_callTy call_intOf (by rfl) T.z_int (by decide +kernel) (pa_cons (pe_ix (ixK K rfl) (pv 1) pe_int (fun _ _ => rfl)) pa_nil)) pe_int) pe_int (nomark _)) (pss_one (ps_set (i := 2) sc_law.nd rfl (by first | exact Or.inl rfl | exact Or.inr rfl) (pe_op opMul (pv 2) pe_int))) pss_nil)
  (pss_cons (ps_setLc (i := 4) (own := [("row", 5)]) (g := (gName 5)) rfl sc_law.nd rfl rfl (sw_true rfl rfl rfl (by decide +kernel)) (pi_anyK K rfl (pv 2)) (blkOk_by (N := ["script", "numbers", "rows", "k", "lines", "row", "given", "told", "due"]) (sc := defScope (topS 29)) (by decide +kernel)) (fun _ _ _ _ _ => (pg_name (i := 5) sc_law.nd rfl (by first | exact Or.inl rfl | exact Or.inr rfl))) (fun _ _ _ _ _ => pts_nil) (fun _ _ _ _ _ => (pe_call G__law_row_line.ok (hr.mono (by first | decide | exact Nat.le_refl _)) rfl G__law_row_line.mg G__law_row_line.kp G__law_row_line.bi .nil passL (pa_cons (pv 5) pa_nil))))
  (pss_cons (ps_set (i := 6) sc_law.nd rfl (by first | exact Or.inl rfl | exact Or.inr rfl) (pe_callTy (call_listK K rfl) (by rfl) T.z_list (by decide +kernel) (pa_cons (pv 2) pa_nil)))
  (pss_cons (ps_set (i := 7) sc_law.nd rfl (by first | exact Or.inl rfl | exact Or.inr rfl) (pe_call G_print_paper.ok (hr.mono (by first | decide | exact Nat.le_refl _)) rfl G_print_paper.mg G_print_paper.kp G_print_paper.bi .nil passL (pa_cons (pv 6) pa_nil)))
  (pss_cons (ps_if (PW.pt (pw_or (pt_not (pt_truK K rfl (pe_call G__law_same.ok (hr.mono (by first | decide | exact Nat.le_refl _)) rfl G__law_same.mg G__law_same.kp G__law_same.bi .nil passL (pa_cons (pv 7) (pa_cons (pv 4) pa_nil))))) (pw_or1 (pt_not (pt_truK K rfl (pe_call G__law_same.ok (hr.mono (by first | decide | exact Nat.le_refl _)) rfl G__law_same.mg G__law_same.kp G__law_same.bi .nil passL (pa_cons (pv 6) (pa_cons (pv 2) pa_nil)))))))) (pss_one (ps_ret pe_bl)) pss_nil)
  (pss_cons (ps_expr (pe_appendK K rfl (pv 7) (pa_str pa_nil)))
  (pss_cons (ps_if (PW.pt (pw_or (pt_not (pt_truK K rfl (pe_call G__law_same.ok (hr.mono (by first | decide | exact Nat.le_refl _)) rfl G__law_same.mg G__law_same.kp G__law_same.bi .nil passL (pa_cons (pe_call G_print_paper.ok (hr.mono (by first | decide | exact Nat.le_refl _)) rfl G_print_paper.mg G_print_paper.kp G_print_paper.bi .nil passL (pa_cons (pe_callTy (call_tupleK K rfl) (by rfl) T.z_tuple (by decide +kernel) (pa_cons (pv 2) pa_nil)) pa_nil)) (pa_cons (pv 4) pa_nil))))) (pw_or1 (pt_not (pt_truK K rfl (pe_call G__law_same.ok (hr.mono (by first | decide | exact Nat.le_refl _)) rfl G__law_same.mg G__law_same.kp G__law_same.bi .nil passL (pa_cons (pe_call G_print_paper.ok (hr.mono (by first | decide | exact Nat.le_refl _)) rfl G_print_paper.mg G_print_paper.kp G_print_paper.bi .nil passL (pa_cons (pv 6) pa_nil)) (pa_cons (pv 4) pa_nil)))))))) (pss_one (ps_ret pe_bl)) pss_nil)
  (pss_cons (ps_set (i := 8) sc_law.nd rfl (by first | exact Or.inl rfl | exact Or.inr rfl) (pe_tup (pa_str (pa_cons (pe_callTy (call_tupleK K rfl) (by rfl) T.z_tuple (by decide +kernel) (pa_cons (pv 2) pa_nil)) pa_nil))))
  (pss_cons (ps_if (PW.pt (pw_or (pt_not (pt_truK K rfl (pe_call G__law_same.ok (hr.mono (by first | decide | exact Nat.le_refl _)) rfl G__law_same.mg G__law_same.kp G__law_same.bi .nil passL (pa_cons (pe_call G__law_told.ok (hr.mono (by first | decide | exact Nat.le_refl _)) rfl G__law_told.mg G__law_told.kp G__law_told.bi .nil passL (pa_cons (pe_callTy (call_listK K rfl) (by rfl) T.z_list (by decide +kernel) (pa_cons (pv 4) pa_nil)) pa_nil)) (pa_cons (pv 8) pa_nil))))) (pw_or1 (pt_not (pt_truK K rfl (pe_call G__law_same.ok (hr.mono (by first | decide | exact Nat.le_refl _)) rfl G__law_same.mg G__law_same.kp G__law_same.bi .nil passL (pa_cons (pe_call G__law_told.ok (hr.mono (by first | decide | exact Nat.le_refl _)) rfl G__law_told.mg G__law_told.kp G__law_told.bi .nil passL (pa_cons (pe_callTy (call_tupleK K rfl) (by rfl) T.z_tuple (by decide +kernel) (pa_cons (pv 4) pa_nil)) pa_nil)) (pa_cons (pv 8) pa_nil)))))))) (pss_one (ps_ret pe_bl)) pss_nil)
  (pss_cons (ps_if (pt_not (pt_truK K rfl (pe_call G__law_same.ok (hr.mono (by first | decide | exact Nat.le_refl _)) rfl G__law_same.mg G__law_same.kp G__law_same.bi .nil passL (pa_cons (pe_lst (pa_cons (pe_call G_print_paper.ok (hr.mono (by first | decide | exact Nat.le_refl _)) rfl G_print_paper.mg G_print_paper.kp G_print_paper.bi .nil passL (pa_cons (pe_lst pa_nil) pa_nil)) (pa_cons (pe_callS G_read_paper.ok (hr.mono (by first | decide | exact Nat.le_refl _)) rfl G_read_paper.mg G_read_paper.kp G_read_paper.bi (fun σ => passAt (takes_of rfl rfl rfl rfl) σ) (pa_cons (pe_lst pa_nil) pa_nil)) (pa_cons (pe_callS G_read_paper.ok (hr.mono (by first | decide | exact Nat.le_refl _)) rfl G_read_paper.mg G_read_paper.kp G_read_paper.bi (fun σ => passAt (takes_of rfl rfl rfl rfl) σ) (pa_cons (pe_tup pa_nil) pa_nil)) pa_nil)))) (pa_cons (pe_lst (pa_cons (pe_lst pa_nil) (pa_cons (pe_tup pa_nil) (pa_cons (pe_tup pa_nil) pa_nil)))) pa_nil))))) (pss_one (ps_ret pe_bl)) pss_nil)
  (pss_cons (ps_expr (pe_appendK K rfl (pv 2) (pa_cons (pe_call G__law_paper_row.ok (hr.mono (by first | decide | exact Nat.le_refl _)) rfl G__law_paper_row.mg G__law_paper_row.kp G__law_paper_row.bi .nil passL (pa_cons (pv 1) (pa_cons (pe_op (opAddK K rfl) pe_int (pe_op op_mod (pe_callTy call_intOf (by rfl) T.z_int (by decide +kernel) (pa_cons (pe_ix (ixK K rfl) (pv 1) pe_int (fun _ _ => rfl)) pa_nil)) pe_int)) pa_nil))) pa_nil)))
  (pss_cons (ps_expr (pe_appendK K rfl (pv 4) (pa_cons (pe_call G__law_row_line.ok (hr.mono (by first | decide | exact Nat.le_refl _)) rfl G__law_row_line.mg G__law_row_line.kp G__law_row_line.bi .nil passL (pa_cons (pe_ix (ixK K rfl) (pv 2) (pe_un un_neg pe_int) (fun _ _ => rfl)) pa_nil)) pa_nil)))
  (pss_one (ps_ret (pe_call G__law_changes_hold.ok (hr.mono (by first | decide | exact Nat.le_refl _)) rfl G__law_changes_hold.mg G__law_changes_hold.kp G__law_changes_hold.bi .nil passL (pa_cons (pv 1) (pa_cons (pv 2) (pa_cons (pv 4) pa_nil)))))))))))))))))))), ?_⟩
    refine sq_asg (un_call2 (y := .int (380 : Nat)) (val_var rfl) val_c ⟨a, cs, 380, rfl, hS, by omega, by decide, fun N ns H1 s1 hN eN hl hin => ?_⟩)
    have get : ∀ j : Nat, j < 380 → ∃ n, atI (ns.map V.int) (j : Int) = some (.int n) ∧ 0 ≤ n ∧ n < 1000 := fun j hj => ⟨ns[j], atI_nat (by rw [List.getElem?_map, List.getElem?_eq_getElem (by omega)]; rfl), hin _ (List.getElem_mem _)⟩
    obtain ⟨n0, e0, b0⟩ := get 0 (by omega)
    obtain ⟨n2, e2, b2⟩ := get 2 (by omega)
    obtain ⟨n3, e3, b3⟩ := get 3 (by omega)
    have hN1 : SqL K H1 N (ns.map V.int) := .inl (.inl eN)
    refine sq_asg ?_
    refine lc_rng1 (n := n0 % 8) (K := K) (v_mod (v_int (vx_l (val_var rfl) val_c hN1 e0)) val_c (by decide)) ⟨by omega, by omega⟩ (fun _ y H => ∃ r, RowV K H y r ∧ r.wf) (fun _ _ _ _ t ⟨r, h1, h2⟩ => ⟨r, h1.mono t, h2⟩) ?_ ?_
    · intro i H' hi s'
      refine ⟨rfl, fun Qy qy => ?_⟩
      have ei : (12 : Int) + 39 * (i : Int) = ((12 + 39 * i : Nat) : Int) := by omega
      exact un_call2 (val_var rfl) ((v_add val_c (v_mulL (j := (i : Nat)) val_c (val_var rfl) (by decide))).to (congrArg V.int ei)) ⟨N, ns, 12 + 39 * i, rfl, same_l s' hN1, hin, by omega, by omega, fun v H4 r s4 hv hw => qy v H4 s4 ⟨r, hv, hw⟩⟩
    · intro D0 us0 H2 hD0 s2 eD0 hl0 hr0
      obtain ⟨rs0, ha0⟩ := All2.of (R := fun v r => RowV K H2 v r ∧ r.wf) hr0
      have hw0 : ∀ r ∈ rs0, r.wf := fun r hr => by
        obtain ⟨i, hi⟩ := List.mem_iff_getElem?.mp hr
        obtain ⟨v, _, h⟩ := ha0.get hi
        exact h.2
      have hlen0 : rs0.length ≤ 7 := by have := ha0.1; omega
      refine sq_ifW (W := fun σ' Hw => ∃ (D : Addr) (us : List V) (rs : List Row), Same H1 Hw ∧ Hw D = some (.lst us) ∧ H1 D = none ∧ All2 (RowV K Hw) us rs ∧ (∀ r ∈ rs, r.wf) ∧ rs.length ≤ 42 ∧ σ' = [some (.ref a), some (.ref N), some (.ref D), none, none, none, none, none, none])
        (n2 % 8 = 7) (a_eqI (v_mod (v_int (vx_l (val_var rfl) val_c (same_l s2 hN1) e2)) val_c (by decide)) val_c) (fun _ Nx hNx => ?_) (fun _ => ⟨D0, us0, rs0, s2, eD0, hD0, ha0.mono fun _ _ h => h.1, hw0, by omega, rfl⟩) ?_
      · refine un_set (un_op (val_var (v := .ref D0) rfl _ (.inr ⟨D0, 6, us0, rfl, rfl, eD0, by decide, by decide, ?_, fun p hp => hNx _ _ ⟨p, _, (List.replicate 6 rs0).flatten, s2.trans (same_new hp), upd_same, s2.free hp, ((ha0.mono fun _ _ h => h.1).rep 6).mono fun _ _ h => h.mono (tsm_same (same_new hp)), ?_, ?_, rfl⟩⟩)))
        · rw [ha0.1]
          exact sz_le (by show rs0.length * 6 ≤ _; omega)
        · intro r hr
          obtain ⟨l, hl, hrl⟩ := List.mem_flatten.mp hr
          rw [List.eq_of_mem_replicate hl] at hrl
          exact hw0 r hrl
        · simp [List.length_flatten]
          omega
      · clear hr0 ha0 hw0 hlen0 eD0 hD0 hl0 s2
        rintro σ H3 ⟨D, us, rs, s3, eD, fD, ha, hw, hlen, rfl⟩
        -- the lines
        refine sq_asg ?_
        refine lc_seq (K := K) (xs := us) (val_var rfl) (.inl (.inl (.inl eD))) (fun i y _ => ∃ r, rs[i]? = some r ∧ y = .str (printRow r)) (fun _ _ _ _ _ h => h) (by rw [ha.1]; omega) ?_ ?_
        · intro j x H' hx s'
          obtain ⟨r, er, hr⟩ := ha.getV hx
          exact ⟨rfl, fun Qy qy => un_call1 (val_var rfl) ⟨x, r, rfl, hr.mono (tsm_same s'), hw r (List.mem_of_getElem? er), fun H4 s4 => qy _ _ s4 ⟨r, er, rfl⟩⟩⟩
        · intro L ys H4 hL s4 eL0 hly hr
          have eL : H4 L = some (.lst ((rs.map printRow).map V.str)) := by
            rw [eL0, List.map_map, map_by_place (f := V.str ∘ printRow) (by rw [hly, ha.1]) hr]
          have hLD : L ≠ D := (ne_of_none eD hL).symm
          have fL : H1 L = none := s3.free hL
          have s14 : Same H1 H4 := s3.trans s4
          have eD4 := s4 _ _ eD
          have ha4 : All2 (RowV K H4) us rs := ha.mono fun _ _ h => h.mono (tsm_same s4)
          -- given
          refine sq_asg (un_cb1 (val_var (v := .ref D) rfl _ ⟨D, us, rfl, .inl (.inl (.inl eD4)), fun G hG => ?_⟩))
          have s5 : Same H4 (upd H4 G (.lst us)) := same_new hG
          have eG : upd H4 G (.lst us) G = some (.lst us) := upd_same
          generalize upd H4 G (.lst us) = H5 at s5 eG ⊢
          have eD5 := s5 _ _ eD4
          have eL5 := s5 _ _ eL
          have ha5 : All2 (RowV K H5) us rs := ha4.mono fun _ _ h => h.mono (tsm_same s5)
          -- told
          refine sq_asg (un_call1 (val_var rfl) ⟨G, us, rs, rfl, .inl (.inl (.inl eG)), ha5, hw, by omega, fun Tt H6 s6 hT eT => ?_⟩)
          have dl : ∀ {H' : Hp}, Same H5 H' → Dp K H' (.ref L) (.list ((rs.map printRow).map .str)) := fun s => dp_lines (.inl (.inl (s _ _ eL5)))
          have dr : ∀ {H' : Hp}, Same H5 H' → Dp K H' (.ref D) (.list (rs.map rowD)) := fun s => dp_rows (.inl (.inl (s _ _ eD5))) (ha5.mono fun _ _ h => h.mono (tsm_same s))
          have dg : ∀ {H' : Hp}, Same H5 H' → Dp K H' (.ref G) (.list (rs.map rowD)) := fun s => dp_rows (.inl (.inl (s _ _ eG))) (ha5.mono fun _ _ h => h.mono (tsm_same s))
          have wl : Wid (.list ((rs.map printRow).map .str)) := strs_wid (by rw [List.length_map]; omega)
          have wr : Wid (.list (rs.map rowD)) := wid_rows hw (by omega)
          have dpl : PyData.depth (.list ((rs.map printRow).map .str)) ≤ 7 := Nat.le_trans (depth_strs _) (by decide)
          have dpr : PyData.depth (.list (rs.map rowD)) ≤ 7 := Nat.le_trans (depth_rows _) (by decide)
          refine sq_noS (AnsS.or2 (AnsS.not (b := true) (AnsS.tru fun Q' q' => un_call2 (val_var rfl) (val_var rfl) ⟨_, _, _, rfl, dp_lines (.inl (.inl eT)), dl s6, wl, dpl, q' _ (Same.refl _)⟩)) fun H' s' => AnsS.not (b := true) (AnsS.tru fun Q' q' => un_call2 (val_var rfl) (val_var rfl) ⟨_, _, _, rfl, dg (s6.trans s'), dr (s6.trans s'), wr, dpr, q' _ (Same.refl _)⟩)) fun H7 s7 => ?_
          -- told.append
          refine sq_app (val_var rfl) val_c (s7 _ _ eT) (by rw [List.length_map, List.length_map]; omega) ?_
          have s8 : Same H5 (upd H7 Tt (.lst ((rs.map printRow).map V.str ++ [V.str "split 0 1"]))) := same_mut (s6.trans s7) hT
          generalize upd H7 Tt (.lst ((rs.map printRow).map V.str ++ [V.str "split 0 1"])) = H8 at s8 ⊢
          have rv : ∀ {H' : Hp}, Same H5 H' → All2 (RowV K H') us rs := fun s => ha5.mono fun _ _ h => h.mono (tsm_same s)
          refine sq_noS (AnsS.or2 (AnsS.not (b := true) (AnsS.tru fun Q' q' => un_callS2 (un_callS1 (un_cb1 (val_var (v := .ref D) rfl _ ⟨D, us, rfl, .inl ⟨.inl (.inl (s8 _ _ eD5)), fun l hl => ⟨l, us, rs, rfl, .inr sqt_new, rv (s8.trans (same_new hl)), hw, by omega, fun P1 H9 s9 hP eP => ?_⟩⟩⟩))))) fun H9 s9 => AnsS.not (b := true) (AnsS.tru fun Q' q' => un_callS2 (un_call1 (val_var (v := .ref G) rfl) ⟨G, us, rs, rfl, .inl (.inl (.inl ((s8.trans s9) _ _ eG))), rv (s8.trans s9), hw, by omega, fun P1 H10 s10 hP eP => ?_⟩))) fun H9 s9 => ?_
          · exact val_var (v := .ref L) rfl _ ⟨_, _, _, rfl, dp_lines (.inl (.inl eP)), dl ((s8.trans (same_new hl)).trans s9), wl, dpl, q' _ ((same_new hl).trans s9)⟩
          · exact val_var (v := .ref L) rfl _ ⟨_, _, _, rfl, dp_lines (.inl (.inl eP)), dl ((s8.trans s9).trans s10), wl, dpl, q' _ s10⟩
          have s59 : Same H5 H9 := s8.trans s9
          -- due
          refine sq_asg (un_tup (ta_val val_c (ta_un (un_cb1 (val_var (v := .ref D) rfl _ ⟨D, us, rfl, .inl ⟨.inl (.inl (s59 _ _ eD5)), fun tl htl => ⟨by show 2 ≤ sizeLine; decide, fun du hdu => ?_⟩⟩⟩)))))
          have s10 : Same H9 (upd (upd H9 tl (.tup us)) du (.tup [V.str "rows", V.ref tl])) := (same_new htl).trans (same_new hdu)
          have tdu : Told K (upd (upd H9 tl (.tup us)) du (.tup [V.str "rows", V.ref tl])) (.ref du) (.inl rs) := ⟨du, tl, us, rfl, sqt_new, same_t (same_new hdu) sqt_new, rv (s59.trans s10)⟩
          generalize upd (upd H9 tl (.tup us)) du (.tup [V.str "rows", V.ref tl]) = H10 at s10 tdu ⊢
          have s510 : Same H5 H10 := s59.trans s10
          have epp := paper_print hw
          have lsm : ∀ z ∈ rs.map printRow, z.length ≤ 100000 := fun z hz => Nat.le_trans (lines_small hw z hz) (by decide)
          have wt : Wid (toldD (.inl rs)) := wid_told fun rs' e => by cases e; exact ⟨by omega, fun r hr => small_wf (hw r hr)⟩
          have dpt : PyData.depth (toldD (.inl rs)) ≤ 7 := Nat.le_trans (depth_told _) (by decide)
          refine sq_noS (AnsS.or2 (AnsS.not (b := true) (AnsS.tru fun Q' q' => un_callS2 (un_callS1 (un_cb1 (val_var (v := .ref L) rfl _ ⟨L, _, rfl, .inl (.inl (.inl (s510 _ _ eL5))), fun l hl => ⟨l, rs.map printRow, rfl, .inl sql_new, lsm, by rw [List.length_map]; omega, fun v H11 s11 hv => ?_⟩⟩))))) fun H11 s11 => AnsS.not (b := true) (AnsS.tru fun Q' q' => un_callS2 (un_callS1 (un_cb1 (val_var (v := .ref L) rfl _ ⟨L, _, rfl, .inl ⟨.inl (.inl ((s510.trans s11) _ _ eL5)), fun l hl => ⟨l, rs.map printRow, rfl, .inr sqt_new, lsm, by rw [List.length_map]; omega, fun v H12 s12 hv => ?_⟩⟩⟩))))) fun H11 s11 => ?_
          · rw [epp] at hv
            exact val_var (v := .ref du) rfl _ ⟨_, _, toldD (.inl rs), rfl, dp_told hv, dp_told (told_mono (tsm_same ((same_new hl).trans s11)) tdu), wt, dpt, q' _ ((same_new hl).trans s11)⟩
          · rw [epp] at hv
            exact val_var (v := .ref du) rfl _ ⟨_, _, toldD (.inl rs), rfl, dp_told hv, dp_told (told_mono (tsm_same ((s11.trans (same_new hl)).trans s12)) tdu), wt, dpt, q' _ ((same_new hl).trans s12)⟩
          have s511 : Same H5 H11 := s510.trans s11
          -- the empty papers
          have nil_of : ∀ {H' : Hp} {us : List V} {rs : List Row}, readPaper 1 [] = .inl rs → All2 (RowV K H') us rs → us = [] := by
            intro H' us rs e h
            cases e
            exact List.length_eq_zero_iff.mp h.1
          have triple : AnsS (tTruA K (tCall (spSame K 8) [] E0 (tCons (tLst (tCons (tCall (spPrintPaper K) [] E0 (tCons (tLst tNil) tNil)) (tCons (tCallS (spReadPaper K C) (fun _ cls d H => E cls d H) (tCons (tLst tNil) tNil)) (tCons (tCallS (spReadPaper K C) (fun _ cls d H => E cls d H) (tCons (tTup tNil) tNil)) tNil)))) (tCons (tLst (tCons (tLst tNil) (tCons (tTup tNil) (tCons (tTup tNil) tNil)))) tNil))))
              [some (.ref a), some (.ref N), some (.ref D), none, some (.ref L), none, some (.ref G), some (.ref Tt), some (.ref du)] H11 true := by
            refine AnsS.tru fun Q' q' => un_callS2 (un_lst (ta_un (un_callS1 (un_lst ⟨Nat.zero_le _, fun p1 h1 => ⟨p1, [], [], rfl, .inl sql_new, All2.nil, fun r hr => by simp at hr, Nat.zero_le _, fun A1 Ha sa fa ea => ?_⟩⟩))))
            refine ta_un (un_callT1 (un_lst ⟨Nat.zero_le _, fun p2 h2 => ⟨p2, [], rfl, .inl sql_new, fun r hr => by simp at hr, Nat.zero_le _, fun rs1 er1 q1 us1 Hb sb hq1 hb1 => ?_, fun n e => by cases e⟩⟩))
            refine ta_un (un_callT1 (un_tup ⟨Nat.zero_le _, fun p3 h3 => ⟨p3, [], rfl, .inr sqt_new, fun r hr => by simp at hr, Nat.zero_le _, fun rs2 er2 q2 us2 Hc sc hq2 hc1 => ?_, fun n e => by cases e⟩⟩))
            have eu1 := nil_of er1 hb1
            have eu2 := nil_of er2 hc1
            subst eu1 eu2
            refine ⟨by show 3 ≤ sizeLine; decide, fun M1 hM1 => un_lst (ta_un (un_lst ⟨Nat.zero_le _, fun B1 hB1 => ta_un (un_tup ⟨Nat.zero_le _, fun B2 hB2 => ta_un (un_tup ⟨Nat.zero_le _, fun B3 hB3 => ⟨by show 3 ≤ sizeLine; decide, fun M2 hM2 => ?_⟩⟩)⟩)⟩))⟩
            have t1 : Same Ha Hc := ((same_new h2).trans sb).trans ((same_new h3).trans sc)
            have t2 := (((same_new hM1 (o := .lst [V.ref A1, V.ref q1, V.ref q2])).trans (same_new hB1 (o := .lst []))).trans (same_new hB2 (o := .tup []))).trans (same_new hB3 (o := .tup []))
            have t3 := t2.trans (same_new hM2 (o := .lst [V.ref B1, V.ref B2, V.ref B3]))
            have u3 := (same_new hM2 (o := .lst [V.ref B1, V.ref B2, V.ref B3]))
            have u2 := (same_new hB3 (o := .tup [])).trans u3
            have u1 := (same_new hB2 (o := .tup [])).trans u2
            have u0 := (same_new hB1 (o := .lst [])).trans u1
            refine ⟨_, _, .list [.list [], .tuple [], .tuple []], rfl, .lst (same_l u0 sql_new) (.cons (.lst (xs := []) (.inl (.inl (t3 _ _ (t1 _ _ ea)))) .nil) (.cons (.tup (same_t ((((same_new h3).trans sc)).trans t3) hq1) .nil) (.cons (.tup (same_t t3 hq2) .nil) .nil))),
              .lst sql_new (.cons (.lst (same_l u1 sql_new) .nil) (.cons (.tup (same_t u2 sqt_new) .nil) (.cons (.tup (same_t u3 sqt_new) .nil) .nil))), ?_, by decide +kernel, q' _ ((((same_new h1).trans sa).trans t1).trans t3)⟩
            refine .lst (by decide) fun d hd => ?_
            simp only [List.mem_cons, List.not_mem_nil, or_false] at hd
            rcases hd with rfl | rfl | rfl
            · exact .lst (by decide) fun d hd => by simp at hd
            · exact .tup (by decide) fun d hd => by simp at hd
            · exact .tup (by decide) fun d hd => by simp at hd
          refine sq_noS (AnsS.not (b := true) triple) fun H12 s12 => ?_
          clear triple
          have s512 : Same H5 H12 := s511.trans s12
          have s45 : Same H1 H5 := s14.trans s5
          have s112 : Same H1 H12 := s45.trans s512
          -- one row more
          have n3e : (3 : Int) + n3 % 300 = ((3 + (n3 % 300).toNat : Nat) : Int) := by omega
          refine sq_appU (val_var rfl) (.inl ⟨rfl, us, .inl (.inl (s512 _ _ eD5))⟩) (un_call2 (val_var rfl) ((v_add val_c (v_mod (v_int (vx_l (val_var rfl) val_c (same_l s112 hN1) e3)) val_c (by decide))).to (congrArg V.int n3e)) ⟨N, ns, 3 + (n3 % 300).toNat, rfl, same_l s112 hN1, hin, by omega, by omega, fun v H13 r s13 hv hwr => ?_⟩)
          have eD13 := (s512.trans s13) _ _ eD5
          refine ⟨D, us, v, rfl, rfl, eD13, sz_lt (by rw [ha.1]; omega), ?_⟩
          have tD : TSm K H13 (upd H13 D (.lst (us ++ [v]))) := tsm_lst eD13
          have ar : All2 (RowV K (upd H13 D (.lst (us ++ [v])))) (us ++ [v]) (rs ++ [r]) := ((rv (s512.trans s13)).mono fun _ _ h => h.mono tD).app (All2.one (hv.mono tD))
          have s1D : Same H1 (upd H13 D (.lst (us ++ [v]))) := same_mut (s112.trans s13) fD
          have eDn : upd H13 D (.lst (us ++ [v])) D = some (.lst (us ++ [v])) := upd_same
          have eLn : upd H13 D (.lst (us ++ [v])) L = some (.lst ((rs.map printRow).map V.str)) := by
            rw [upd_ne hLD]
            exact (s512.trans s13) _ _ eL5
          generalize upd H13 D (.lst (us ++ [v])) = H14 at ar s1D eDn eLn ⊢
          refine sq_appU (val_var rfl) (.inl ⟨rfl, _, .inl (.inl eLn)⟩) (un_call1 (vx_l (val_var rfl) (v_neg1 val_c) (.inl (.inl eDn)) (atI_last us v)) ⟨v, r, rfl, ar.2 us.length v r (by simp) (by rw [ha.1]; simp), hwr, fun H15 s15 => ⟨L, _, _, rfl, rfl, s15 _ _ eLn, sz_lt (by rw [List.length_map, List.length_map]; omega), ?_⟩⟩)
          have sL : Same H1 (upd H15 L (.lst ((rs.map printRow).map V.str ++ [V.str (printRow r)]))) := same_mut (s1D.trans s15) fL
          have tL : TSm K H15 (upd H15 L (.lst ((rs.map printRow).map V.str ++ [V.str (printRow r)]))) := tsm_lst (s15 _ _ eLn)
          refine un_ret (un_call3 (val_var rfl) (val_var rfl) (val_var rfl) ⟨N, D, L, ns, us ++ [v], rs ++ [r], rfl, same_l sL hN1, hin, hl, .inl (.inl ?_), ar.mono fun _ _ h => (h.mono (tsm_same s15)).mono tL, ?_, .inl (.inl ?_), by simp, by simp; omega, fun H' _ => k H'⟩)
          · rw [upd_ne hLD.symm]
            exact s15 _ _ eDn
          · intro x hx
            rcases List.mem_append.mp hx with hx | hx
            · exact hw x hx
            · have : x = r := by simpa using hx
              rw [this]
              exact hwr
          · rw [upd_same, List.map_append, List.map_append]
            rfl
end
end K54

namespace K54
open PySem PySem.Spec PyProof.Rows TL L2 L3
section
open PySem.W
abbrev sInit : Stmt := inClass (topS 2) 0
theorem scI : SupScope ["self", "line"] ["self", "line"] (defScope sInit) := ⟨rfl, rfl, rfl, by decide +kernel, rfl, by decide +kernel, by decide +kernel, by decide +kernel, by decide +kernel, by decide +kernel⟩
section
variable {P : Program} {w : World} {K : PySem.W.Frag} {mg : Str → Option Value} {base : Heap}
theorem ok_init {f cc C cda : Addr} {dV kV doc pm ct oc ccl cl : Value} {an od cdd cld : Option Addr} {k : Nat}
    {osl ccs csl : Array (Option Value)} {vs0 : Array Value} {file : Str} {tf : Tok} (T : SupTxt P K mg C) (hn : PySem.W.findIn K (.ref C) "line" = some none)
    (lk : K.lookup f = some ⟨oc, od, .func (ksFn "__init__" "BadMark.__init__" (defArgs sInit) (defBody sInit) (defScope sInit) dV kV doc pm an (.ref cda) ct cc), osl⟩)
    (hcd : codeIn K (.ref cda) "BadMark.__init__" = true) (hcode : K.lookup cda = some ⟨ccl, cdd, .fields vs0, ccs⟩) (hvs : vs0[2]? = some (.str file tf)) (hfile : ((P.main.file : Str) == file) = true)
    (hcell : K.lookup cc = some ⟨cl, cld, .cell (some (.ref C)), csl⟩) :
    FnOk P w K mg base (L2.CX P w) (k + 1) f (ksFn "__init__" "BadMark.__init__" (defArgs sInit) (defBody sInit) (defScope sInit) dV kV doc pm an (.ref cda) ct cc) ["self", "line"] (spInit1 C "line") := by
  refine fn_sup T lk hcd hcode hvs hfile hcell scI rfl rfl (fun vs H Q E h => ?_) (fun L => rfl) (fun L => rfl) (fun L => ⟨_, rfl⟩) (fun A outer s H vs Q E hr h => ?_)
  · obtain ⟨a, i, rfl, _⟩ := h
    rfl
  · obtain ⟨a, i, rfl, ha, h0, h9, q⟩ := h
    refine ⟨_, _, a, rfl, ha, pa_cons (pe_joined (.cons pe_str (.cons (pe_fmt (pv 1)) (.cons pe_str .nil)))) pa_nil, pss_one (ps_ost (pv 0) (pv 1)), ?_⟩
    have l1 := str_small h0 h9
    have e1 : ∀ (x y : Str), (x ++ y).length = x.length + y.length := Str.length_append
    refine ⟨_, rfl, by decide +kernel, _, rfl, .inr ⟨i, rfl, log2_small h0 h9, _, rfl, ?_, _, rfl, ?_, (by show 1 ≤ 10; decide), ha, _, rfl, _, rfl, a, C, rfl, T.ox, hn, .inl ⟨ha, fun dx nd ne => q dx nd ne⟩⟩⟩
    · rw [e1]
      refine sz_le (Nat.le_trans (Nat.add_le_add_left l1 _) (by decide +kernel))
    · rw [e1, e1]
      refine sz_le (Nat.le_trans (Nat.add_le_add_right (Nat.add_le_add_left l1 _) _) (by decide +kernel))
end
end
/-- an error of the class at S is what «except S» names -/
theorem exm_self {K : PySem.W.Frag} {S : Addr} (h1 : PySem.W.subIn K (.ref S) (.type "BaseException") = some true) (h2 : PySem.W.isClsIn K S = true) (h3 : PySem.W.typeIn K (.ref S) = some (.type "type")) (h4 : PySem.W.subIn K (.ref S) (.ref S) = some true) :
    PySem.W.exmOne K (.ref S) (.ref S) = some true := by
  have e1 : (PySem.W.subIn K (.ref S) (.type "BaseException") == some true) = true := by rw [h1] <;> rfl
  have e2 : ((PySem.W.clsIn K S).isSome && PySem.W.typeIn K (.ref S) == some (.type "type")) = true := by
    have h2' : (PySem.W.clsIn K S).isSome = true := h2
    rw [h2', h3] <;> rfl
  show (if (PySem.W.subIn K (.ref S) (.type "BaseException") == some true) = true then (if ((PySem.W.clsIn K S).isSome && PySem.W.typeIn K (.ref S) == some (.type "type")) = true then PySem.W.subIn K (.ref S) (.ref S) else none) else none) = some true
  rw [if_pos e1, if_pos e2]
  exact h4
theorem all_mk {l : PySem.W.OpenLaw} {w : World} {K : PySem.W.Frag} {h : Heap} {mg : Str → Option Value} {fa C : Addr} (X : K.In h) (G : h.Ns mainGlobals mg) (hfa : mg "law" = some (.ref fa))
    {f0 : Addr} {od0 an0 : Option Addr} {sl0 : Array (Option Value)} {oc0 kV0 dc0 pm0 cd0 ct0 : Value}
    {f1 : Addr} {od1 an1 : Option Addr} {sl1 : Array (Option Value)} {oc1 kV1 dc1 pm1 cd1 ct1 : Value}
    {f2 : Addr} {od2 an2 : Option Addr} {sl2 : Array (Option Value)} {oc2 kV2 dc2 pm2 cd2 ct2 : Value}
    {f3 : Addr} {od3 an3 : Option Addr} {sl3 : Array (Option Value)} {oc3 kV3 dc3 pm3 cd3 ct3 : Value}
    {f4 : Addr} {od4 an4 : Option Addr} {sl4 : Array (Option Value)} {oc4 kV4 dc4 pm4 cd4 ct4 : Value}
    {f5 : Addr} {od5 an5 : Option Addr} {sl5 : Array (Option Value)} {oc5 kV5 dc5 pm5 cd5 ct5 : Value}
    {f6 : Addr} {od6 an6 : Option Addr} {sl6 : Array (Option Value)} {oc6 kV6 dc6 pm6 cd6 ct6 : Value}
    {f7 : Addr} {od7 an7 : Option Addr} {sl7 : Array (Option Value)} {oc7 kV7 dc7 pm7 cd7 ct7 : Value}
    {f8 : Addr} {od8 an8 : Option Addr} {sl8 : Array (Option Value)} {oc8 kV8 dc8 pm8 cd8 ct8 : Value}
    {f9 : Addr} {od9 an9 : Option Addr} {sl9 : Array (Option Value)} {oc9 kV9 dc9 pm9 cd9 ct9 : Value}
    {f10 : Addr} {od10 an10 : Option Addr} {sl10 : Array (Option Value)} {oc10 kV10 dc10 pm10 cd10 ct10 : Value}
    {f11 : Addr} {od11 an11 : Option Addr} {sl11 : Array (Option Value)} {oc11 kV11 dc11 pm11 cd11 ct11 : Value}
    {f12 : Addr} {od12 an12 : Option Addr} {sl12 : Array (Option Value)} {oc12 kV12 dc12 pm12 cd12 ct12 : Value}
    {f13 : Addr} {od13 an13 : Option Addr} {sl13 : Array (Option Value)} {oc13 kV13 dc13 pm13 cd13 ct13 : Value}
    {f14 : Addr} {od14 an14 : Option Addr} {sl14 : Array (Option Value)} {oc14 kV14 dc14 pm14 cd14 ct14 : Value}
    {f15 : Addr} {od15 an15 : Option Addr} {sl15 : Array (Option Value)} {oc15 kV15 dc15 pm15 cd15 ct15 : Value}
    {f16 : Addr} {od16 an16 : Option Addr} {sl16 : Array (Option Value)} {oc16 kV16 dc16 pm16 cd16 ct16 : Value}
    {f17 : Addr} {od17 an17 : Option Addr} {sl17 : Array (Option Value)} {oc17 kV17 dc17 pm17 cd17 ct17 : Value}
    {f18 : Addr} {od18 an18 : Option Addr} {sl18 : Array (Option Value)} {oc18 kV18 dc18 pm18 cd18 ct18 : Value}
    {f19 : Addr} {od19 an19 : Option Addr} {sl19 : Array (Option Value)} {oc19 kV19 dc19 pm19 cd19 ct19 : Value}
    {f20 : Addr} {od20 an20 : Option Addr} {sl20 : Array (Option Value)} {oc20 kV20 dc20 pm20 cd20 ct20 : Value}
    {f21 : Addr} {od21 an21 : Option Addr} {sl21 : Array (Option Value)} {oc21 kV21 dc21 pm21 cd21 ct21 : Value}
    {f22 : Addr} {od22 an22 : Option Addr} {sl22 : Array (Option Value)} {oc22 kV22 dc22 pm22 cd22 ct22 : Value}
    {t1 t2 : Tok}
    {nm q : Str} {N : Addr} {bs bm : List Value} {sn : List Str} {sub : List Value} {ab : Bool} {col : Option Bool} {dd : Option Addr} {m0 m1 m2 m3 m5 : Option Value}
    {fI cda cc : Addr} {odI anI cdd cld : Option Addr} {slI ccs csl : Array (Option Value)} {ocI dVI kVI dcI pmI ctI ccl cl : Value} {vs0 : Array Value} {file : Str} {tf : Tok}
    (a0 : PySem.W.nsIn K mainGlobals "is_number" = some (some (.ref f0)))
    (l0 : K.lookup f0 = some ⟨oc0, od0, .func (PySem.W.fnOf "is_number" "is_number" (defArgs (topS 6)) (defBody (topS 6)) (defScope (topS 6)) .none kV0 dc0 pm0 an0 cd0 ct0), sl0⟩)
    (c0 : PySem.W.codeIn K cd0 "is_number" = true)
    (k0 : PySem.W.keepIn K (.ref f0) = true)
    (a1 : PySem.W.nsIn K mainGlobals "read_number" = some (some (.ref f1)))
    (l1 : K.lookup f1 = some ⟨oc1, od1, .func (PySem.W.fnOf "read_number" "read_number" (defArgs (topS 7)) (defBody (topS 7)) (defScope (topS 7)) .none kV1 dc1 pm1 an1 cd1 ct1), sl1⟩)
    (c1 : PySem.W.codeIn K cd1 "read_number" = true)
    (k1 : PySem.W.keepIn K (.ref f1) = true)
    (a2 : PySem.W.nsIn K mainGlobals "read_numbers" = some (some (.ref f2)))
    (l2 : K.lookup f2 = some ⟨oc2, od2, .func (PySem.W.fnOf "read_numbers" "read_numbers" (defArgs (topS 8)) (defBody (topS 8)) (defScope (topS 8)) .none kV2 dc2 pm2 an2 cd2 ct2), sl2⟩)
    (c2 : PySem.W.codeIn K cd2 "read_numbers" = true)
    (k2 : PySem.W.keepIn K (.ref f2) = true)
    (a3 : PySem.W.nsIn K mainGlobals "numbers_text" = some (some (.ref f3)))
    (l3 : K.lookup f3 = some ⟨oc3, od3, .func (PySem.W.fnOf "numbers_text" "numbers_text" (defArgs (topS 9)) (defBody (topS 9)) (defScope (topS 9)) .none kV3 dc3 pm3 an3 cd3 ct3), sl3⟩)
    (c3 : PySem.W.codeIn K cd3 "numbers_text" = true)
    (k3 : PySem.W.keepIn K (.ref f3) = true)
    (a4 : PySem.W.nsIn K mainGlobals "read_walks" = some (some (.ref f4)))
    (l4 : K.lookup f4 = some ⟨oc4, od4, .func (PySem.W.fnOf "read_walks" "read_walks" (defArgs (topS 10)) (defBody (topS 10)) (defScope (topS 10)) .none kV4 dc4 pm4 an4 cd4 ct4), sl4⟩)
    (c4 : PySem.W.codeIn K cd4 "read_walks" = true)
    (k4 : PySem.W.keepIn K (.ref f4) = true)
    (a5 : PySem.W.nsIn K mainGlobals "print_row" = some (some (.ref f5)))
    (l5 : K.lookup f5 = some ⟨oc5, od5, .func (PySem.W.fnOf "print_row" "print_row" (defArgs (topS 11)) (defBody (topS 11)) (defScope (topS 11)) .none kV5 dc5 pm5 an5 cd5 ct5), sl5⟩)
    (c5 : PySem.W.codeIn K cd5 "print_row" = true)
    (k5 : PySem.W.keepIn K (.ref f5) = true)
    (a6 : PySem.W.nsIn K mainGlobals "read_row" = some (some (.ref f6)))
    (l6 : K.lookup f6 = some ⟨oc6, od6, .func (PySem.W.fnOf "read_row" "read_row" (defArgs (topS 12)) (defBody (topS 12)) (defScope (topS 12)) .none kV6 dc6 pm6 an6 cd6 ct6), sl6⟩)
    (c6 : PySem.W.codeIn K cd6 "read_row" = true)
    (k6 : PySem.W.keepIn K (.ref f6) = true)
    (a7 : PySem.W.nsIn K mainGlobals "print_paper" = some (some (.ref f7)))
    (l7 : K.lookup f7 = some ⟨oc7, od7, .func (PySem.W.fnOf "print_paper" "print_paper" (defArgs (topS 13)) (defBody (topS 13)) (defScope (topS 13)) .none kV7 dc7 pm7 an7 cd7 ct7), sl7⟩)
    (c7 : PySem.W.codeIn K cd7 "print_paper" = true)
    (k7 : PySem.W.keepIn K (.ref f7) = true)
    (a8 : PySem.W.nsIn K mainGlobals "read_paper" = some (some (.ref f8)))
    (l8 : K.lookup f8 = some ⟨oc8, od8, .func (PySem.W.fnOf "read_paper" "read_paper" (defArgs (topS 14)) (defBody (topS 14)) (defScope (topS 14)) .none kV8 dc8 pm8 an8 cd8 ct8), sl8⟩)
    (c8 : PySem.W.codeIn K cd8 "read_paper" = true)
    (k8 : PySem.W.keepIn K (.ref f8) = true)
    (a9 : PySem.W.nsIn K mainGlobals "_law_numbers" = some (some (.ref f9)))
    (l9 : K.lookup f9 = some ⟨oc9, od9, .func (PySem.W.fnOf "_law_numbers" "_law_numbers" (defArgs (topS 16)) (defBody (topS 16)) (defScope (topS 16)) .none kV9 dc9 pm9 an9 cd9 ct9), sl9⟩)
    (c9 : PySem.W.codeIn K cd9 "_law_numbers" = true)
    (k9 : PySem.W.keepIn K (.ref f9) = true)
    (a10 : PySem.W.nsIn K mainGlobals "_law_same" = some (some (.ref f10)))
    (l10 : K.lookup f10 = some ⟨oc10, od10, .func (PySem.W.fnOf "_law_same" "_law_same" (defArgs (topS 17)) (defBody (topS 17)) (defScope (topS 17)) .none kV10 dc10 pm10 an10 cd10 ct10), sl10⟩)
    (c10 : PySem.W.codeIn K cd10 "_law_same" = true)
    (k10 : PySem.W.keepIn K (.ref f10) = true)
    (a11 : PySem.W.nsIn K mainGlobals "_law_value" = some (some (.ref f11)))
    (l11 : K.lookup f11 = some ⟨oc11, od11, .func (PySem.W.fnOf "_law_value" "_law_value" (defArgs (topS 18)) (defBody (topS 18)) (defScope (topS 18)) .none kV11 dc11 pm11 an11 cd11 ct11), sl11⟩)
    (c11 : PySem.W.codeIn K cd11 "_law_value" = true)
    (k11 : PySem.W.keepIn K (.ref f11) = true)
    (a12 : PySem.W.nsIn K mainGlobals "_law_parted" = some (some (.ref f12)))
    (l12 : K.lookup f12 = some ⟨oc12, od12, .func (PySem.W.fnOf "_law_parted" "_law_parted" (defArgs (topS 19)) (defBody (topS 19)) (defScope (topS 19)) .none kV12 dc12 pm12 an12 cd12 ct12), sl12⟩)
    (c12 : PySem.W.codeIn K cd12 "_law_parted" = true)
    (k12 : PySem.W.keepIn K (.ref f12) = true)
    (a13 : PySem.W.nsIn K mainGlobals "_law_paper_row" = some (some (.ref f13)))
    (l13 : K.lookup f13 = some ⟨oc13, od13, .func (PySem.W.fnOf "_law_paper_row" "_law_paper_row" (defArgs (topS 20)) (defBody (topS 20)) (defScope (topS 20)) .none kV13 dc13 pm13 an13 cd13 ct13), sl13⟩)
    (c13 : PySem.W.codeIn K cd13 "_law_paper_row" = true)
    (k13 : PySem.W.keepIn K (.ref f13) = true)
    (a14 : PySem.W.nsIn K mainGlobals "_law_row_line" = some (some (.ref f14)))
    (l14 : K.lookup f14 = some ⟨oc14, od14, .func (PySem.W.fnOf "_law_row_line" "_law_row_line" (defArgs (topS 21)) (defBody (topS 21)) (defScope (topS 21)) .none kV14 dc14 pm14 an14 cd14 ct14), sl14⟩)
    (c14 : PySem.W.codeIn K cd14 "_law_row_line" = true)
    (k14 : PySem.W.keepIn K (.ref f14) = true)
    (a15 : PySem.W.nsIn K mainGlobals "_law_number" = some (some (.ref f15)))
    (l15 : K.lookup f15 = some ⟨oc15, od15, .func (PySem.W.fnOf "_law_number" "_law_number" (defArgs (topS 22)) (defBody (topS 22)) (defScope (topS 22)) .none kV15 dc15 pm15 an15 cd15 ct15), sl15⟩)
    (c15 : PySem.W.codeIn K cd15 "_law_number" = true)
    (k15 : PySem.W.keepIn K (.ref f15) = true)
    (a16 : PySem.W.nsIn K mainGlobals "_law_walk" = some (some (.ref f16)))
    (l16 : K.lookup f16 = some ⟨oc16, od16, .func (PySem.W.fnOf "_law_walk" "_law_walk" (defArgs (topS 23)) (defBody (topS 23)) (defScope (topS 23)) .none kV16 dc16 pm16 an16 cd16 ct16), sl16⟩)
    (c16 : PySem.W.codeIn K cd16 "_law_walk" = true)
    (k16 : PySem.W.keepIn K (.ref f16) = true)
    (a17 : PySem.W.nsIn K mainGlobals "_law_row" = some (some (.ref f17)))
    (l17 : K.lookup f17 = some ⟨oc17, od17, .func (PySem.W.fnOf "_law_row" "_law_row" (defArgs (topS 24)) (defBody (topS 24)) (defScope (topS 24)) .none kV17 dc17 pm17 an17 cd17 ct17), sl17⟩)
    (c17 : PySem.W.codeIn K cd17 "_law_row" = true)
    (k17 : PySem.W.keepIn K (.ref f17) = true)
    (a18 : PySem.W.nsIn K mainGlobals "_law_spoilt" = some (some (.ref f18)))
    (l18 : K.lookup f18 = some ⟨oc18, od18, .func (PySem.W.fnOf "_law_spoilt" "_law_spoilt" (defArgs (topS 25)) (defBody (topS 25)) (defScope (topS 25)) .none kV18 dc18 pm18 an18 cd18 ct18), sl18⟩)
    (c18 : PySem.W.codeIn K cd18 "_law_spoilt" = true)
    (k18 : PySem.W.keepIn K (.ref f18) = true)
    (a19 : PySem.W.nsIn K mainGlobals "_law_told" = some (some (.ref f19)))
    (l19 : K.lookup f19 = some ⟨oc19, od19, .func (PySem.W.fnOf "_law_told" "_law_told" (defArgs (topS 26)) (defBody (topS 26)) (defScope (topS 26)) .none kV19 dc19 pm19 an19 cd19 ct19), sl19⟩)
    (c19 : PySem.W.codeIn K cd19 "_law_told" = true)
    (k19 : PySem.W.keepIn K (.ref f19) = true)
    (a20 : PySem.W.nsIn K mainGlobals "_law_due" = some (some (.ref f20)))
    (l20 : K.lookup f20 = some ⟨oc20, od20, .func (PySem.W.fnOf "_law_due" "_law_due" (defArgs (topS 27)) (defBody (topS 27)) (defScope (topS 27)) .none kV20 dc20 pm20 an20 cd20 ct20), sl20⟩)
    (c20 : PySem.W.codeIn K cd20 "_law_due" = true)
    (k20 : PySem.W.keepIn K (.ref f20) = true)
    (a21 : PySem.W.nsIn K mainGlobals "_law_changes_hold" = some (some (.ref f21)))
    (l21 : K.lookup f21 = some ⟨oc21, od21, .func (PySem.W.fnOf "_law_changes_hold" "_law_changes_hold" (defArgs (topS 28)) (defBody (topS 28)) (defScope (topS 28)) .none kV21 dc21 pm21 an21 cd21 ct21), sl21⟩)
    (c21 : PySem.W.codeIn K cd21 "_law_changes_hold" = true)
    (k21 : PySem.W.keepIn K (.ref f21) = true)
    (a22 : PySem.W.nsIn K mainGlobals "law" = some (some (.ref f22)))
    (l22 : K.lookup f22 = some ⟨oc22, od22, .func (PySem.W.fnOf "law" "law" (defArgs (topS 29)) (defBody (topS 29)) (defScope (topS 29)) .none kV22 dc22 pm22 an22 cd22 ct22), sl22⟩)
    (c22 : PySem.W.codeIn K cd22 "law" = true)
    (k22 : PySem.W.keepIn K (.ref f22) = true)
    (z_abs : PySem.W.nsIn K mainGlobals "abs" = some none)
    (z_enumerate : PySem.W.nsIn K mainGlobals "enumerate" = some none)
    (z_int : PySem.W.nsIn K mainGlobals "int" = some none)
    (z_bool : PySem.W.nsIn K mainGlobals "bool" = some none)
    (z_isinstance : PySem.W.nsIn K mainGlobals "isinstance" = some none)
    (z_len : PySem.W.nsIn K mainGlobals "len" = some none)
    (z_list : PySem.W.nsIn K mainGlobals "list" = some none)
    (z_min : PySem.W.nsIn K mainGlobals "min" = some none)
    (z_range : PySem.W.nsIn K mainGlobals "range" = some none)
    (z_sorted : PySem.W.nsIn K mainGlobals "sorted" = some none)
    (z_str : PySem.W.nsIn K mainGlobals "str" = some none)
    (z_tuple : PySem.W.nsIn K mainGlobals "tuple" = some none)
    (cD : PySem.W.nsIn K mainGlobals "DIGITS" = some (some (.str "0123456789" t1)))
    (cM : PySem.W.nsIn K mainGlobals "MOST_DIGITS" = some (some (.int 9 t2)))
    (aC : PySem.W.nsIn K mainGlobals "BadMark" = some (some (.ref C)))
    (xL : K.lookup C = some (excClassObj nm q C N bs bm true sn sub ab col dd m0 m1 m2 m3 m5 "ValueError.__new__"))
    (xB : PySem.HandSPX.refsVE bm = true)
    (sa : PySem.W.findIn K (.ref C) "__setattr__" = some (some (.builtin "object.__setattr__")))
    (ga : PySem.W.findIn K (.ref C) "__getattribute__" = some (some (.builtin "BaseException.__getattribute__")))
    (gg : PySem.W.findIn K (.ref C) "__getattr__" = some none)
    (nb : PySem.W.findIn K (.ref C) "line" = some none)
    (iI : PySem.W.findIn K (.ref C) "__init__" = some (some (.ref fI)))
    (tI : PySem.W.typeIn K (.ref fI) = some (.type "function"))
    (lI : K.lookup fI = some ⟨ocI, odI, .func (PySem.W.ksFn "__init__" "BadMark.__init__" (defArgs sInit) (defBody sInit) (defScope sInit) dVI kVI dcI pmI anI (.ref cda) ctI cc), slI⟩)
    (cI : PySem.W.codeIn K (.ref cda) "BadMark.__init__" = true)
    (oI : K.lookup cda = some ⟨ccl, cdd, .fields vs0, ccs⟩)
    (vI : vs0[2]? = some (.str file tf))
    (fI2 : ((l.prog.main.file : Str) == file) = true)
    (eI : K.lookup cc = some ⟨cl, cld, .cell (some (.ref C)), csl⟩)
    (kC : PySem.W.keepIn K (.ref C) = true)
    (eC : PySem.W.subIn K (.ref C) (.type "BaseException") = some true)
    (tC : PySem.W.typeIn K (.ref C) = some (.type "type"))
    (hC : PySem.W.hasDictIn K C = true)
    (iC : PySem.W.isClsIn K C = true)
    (sC : PySem.W.subIn K (.ref C) (.ref C) = some true)
    (zS : PySem.W.nsIn K mainGlobals "super" = some none)
    (fS : PySem.W.ks_superIn K C C "__init__" = some (some (.builtin "ValueError.__init__")))
    (oS : PySem.W.nsIn K cStatics "thirdparty.any" = some none)
    (vS : PySem.W.subIn K (.ref C) (.type "ValueError") = some true)
    (mS : PySem.W.mroIn K C (.ref C) = some true)
    (tS : (l.prog.main.scope.names.lookup ("super" : Str)).isSome = false)
    (dI : dVI = .none) :
    ∃ fd : FuncData, (∀ (s : Shared) (v : Value), BindsTo s fd ⟨[v], []⟩ [("script", v)]) ∧ ∀ base : Heap, K.In base → base.Ns mainGlobals mg → FnOk l.prog w K mg base (L2.CX l.prog w) 10 fa fd ["script"] (spLaw K) := by
  subst dI
  have e := hfa.symm.trans (PySem.W.mg_of X G a22)
  cases e
  have F0 := fun_mk (st := topS 6) l0 c0 k0
  have b0 := F0.binds (ps := ["field"]) fun _ _ _ _ _ _ us hl => match us, hl with | [_], _ => rfl
  have F1 := fun_mk (st := topS 7) l1 c1 k1
  have b1 := F1.binds (ps := ["field", "at"]) fun _ _ _ _ _ _ us hl => match us, hl with | [_, _], _ => rfl
  have F2 := fun_mk (st := topS 8) l2 c2 k2
  have b2 := F2.binds (ps := ["fields", "at"]) fun _ _ _ _ _ _ us hl => match us, hl with | [_, _], _ => rfl
  have F3 := fun_mk (st := topS 9) l3 c3 k3
  have b3 := F3.binds (ps := ["numbers"]) fun _ _ _ _ _ _ us hl => match us, hl with | [_], _ => rfl
  have F4 := fun_mk (st := topS 10) l4 c4 k4
  have b4 := F4.binds (ps := ["fields", "at"]) fun _ _ _ _ _ _ us hl => match us, hl with | [_, _], _ => rfl
  have F5 := fun_mk (st := topS 11) l5 c5 k5
  have b5 := F5.binds (ps := ["row"]) fun _ _ _ _ _ _ us hl => match us, hl with | [_], _ => rfl
  have F6 := fun_mk (st := topS 12) l6 c6 k6
  have b6 := F6.binds (ps := ["line", "at"]) fun _ _ _ _ _ _ us hl => match us, hl with | [_, _], _ => rfl
  have F7 := fun_mk (st := topS 13) l7 c7 k7
  have b7 := F7.binds (ps := ["rows"]) fun _ _ _ _ _ _ us hl => match us, hl with | [_], _ => rfl
  have F8 := fun_mk (st := topS 14) l8 c8 k8
  have b8 := F8.binds (ps := ["lines"]) fun _ _ _ _ _ _ us hl => match us, hl with | [_], _ => rfl
  have F9 := fun_mk (st := topS 16) l9 c9 k9
  have b9 := F9.binds (ps := ["script", "count"]) fun _ _ _ _ _ _ us hl => match us, hl with | [_, _], _ => rfl
  have F10 := fun_mk (st := topS 17) l10 c10 k10
  have b10 := F10.binds (ps := ["told", "due"]) fun _ _ _ _ _ _ us hl => match us, hl with | [_, _], _ => rfl
  have F11 := fun_mk (st := topS 18) l11 c11 k11
  have b11 := F11.binds (ps := ["numbers", "at"]) fun _ _ _ _ _ _ us hl => match us, hl with | [_, _], _ => rfl
  have F12 := fun_mk (st := topS 19) l12 c12 k12
  have b12 := F12.binds (ps := ["walk", "number"]) fun _ _ _ _ _ _ us hl => match us, hl with | [_, _], _ => rfl
  have F13 := fun_mk (st := topS 20) l13 c13 k13
  have b13 := F13.binds (ps := ["numbers", "at"]) fun _ _ _ _ _ _ us hl => match us, hl with | [_, _], _ => rfl
  have F14 := fun_mk (st := topS 21) l14 c14 k14
  have b14 := F14.binds (ps := ["row"]) fun _ _ _ _ _ _ us hl => match us, hl with | [_], _ => rfl
  have F15 := fun_mk (st := topS 22) l15 c15 k15
  have b15 := F15.binds (ps := ["field"]) fun _ _ _ _ _ _ us hl => match us, hl with | [_], _ => rfl
  have F16 := fun_mk (st := topS 23) l16 c16 k16
  have b16 := F16.binds (ps := ["fields"]) fun _ _ _ _ _ _ us hl => match us, hl with | [_], _ => rfl
  have F17 := fun_mk (st := topS 24) l17 c17 k17
  have b17 := F17.binds (ps := ["line"]) fun _ _ _ _ _ _ us hl => match us, hl with | [_], _ => rfl
  have F18 := fun_mk (st := topS 25) l18 c18 k18
  have b18 := F18.binds (ps := ["line", "way", "number"]) fun _ _ _ _ _ _ us hl => match us, hl with | [_, _, _], _ => rfl
  have F19 := fun_mk (st := topS 26) l19 c19 k19
  have b19 := F19.binds (ps := ["lines"]) fun _ _ _ _ _ _ us hl => match us, hl with | [_], _ => rfl
  have F20 := fun_mk (st := topS 27) l20 c20 k20
  have b20 := F20.binds (ps := ["rows", "lines", "spots"]) fun _ _ _ _ _ _ us hl => match us, hl with | [_, _, _], _ => rfl
  have F21 := fun_mk (st := topS 28) l21 c21 k21
  have b21 := F21.binds (ps := ["numbers", "rows", "lines"]) fun _ _ _ _ _ _ us hl => match us, hl with | [_, _, _], _ => rfl
  have F22 := fun_mk (st := topS 29) l22 c22 k22
  have b22 := F22.binds (ps := ["script"]) fun _ _ _ _ _ _ us hl => match us, hl with | [_], _ => rfl
  have T : Txt mg := ⟨PySem.W.mg_none_of X G z_abs, PySem.W.mg_none_of X G z_enumerate, PySem.W.mg_none_of X G z_int, PySem.W.mg_none_of X G z_bool, PySem.W.mg_none_of X G z_isinstance, PySem.W.mg_none_of X G z_len, PySem.W.mg_none_of X G z_list, PySem.W.mg_none_of X G z_min, PySem.W.mg_none_of X G z_range, PySem.W.mg_none_of X G z_sorted, PySem.W.mg_none_of X G z_str, PySem.W.mg_none_of X G z_tuple, ⟨_, PySem.W.mg_of X G cD, ⟨_, rfl⟩⟩, ⟨_, PySem.W.mg_of X G cM, ⟨_, rfl⟩⟩⟩
  have ox : OexC K C := ⟨⟨nm, q, N, bs, bm, sn, sub, ab, col, dd, m0, m1, m2, m3, m5, xL, xB⟩, sa, eC, tC, kC⟩
  have ST : SupTxt l.prog K mg C := ⟨ox, PySem.W.mg_none_of X G zS, fS, oS, vS, mS, tS⟩
  have R : BadR K C := ⟨⟨ga, gg, eC, hC⟩, nb, exm_self eC iC tC sC⟩
  refine ⟨PySem.W.fnOf "law" "law" (defArgs (topS 29)) (defBody (topS 29)) (defScope (topS 29)) .none kV22 dc22 pm22 an22 cd22 ct22, fun s v => .of_eq rfl, fun base _ _ => ?_⟩
  have B : BadM l.prog w K mg base C fI _ := ⟨ox, iI, tI, ok_init (k := 0) ST nb lI cI oI vI fI2 eI, .all fun us hl => match us, hl with | [_, _], _ => rfl, PySem.W.mg_of X G aC⟩
  have G0 := (⟨ok_is_number (k := 0) F0 T, PySem.W.mg_of X G a0, F0.kp, b0⟩ : Cal l.prog w K mg base _ "is_number" _ _ f0 _)
  have G1 := (⟨ok_read_number F1 T B G0, PySem.W.mg_of X G a1, F1.kp, b1⟩ : Cal l.prog w K mg base _ "read_number" _ _ f1 _)
  have G2 := (⟨ok_read_numbers F2 T B G1, PySem.W.mg_of X G a2, F2.kp, b2⟩ : Cal l.prog w K mg base _ "read_numbers" _ _ f2 _)
  have G3 := (⟨ok_numbers_text F3 T, PySem.W.mg_of X G a3, F3.kp, b3⟩ : Cal l.prog w K mg base _ "numbers_text" _ _ f3 _)
  have G4 := (⟨ok_read_walks F4 T G2, PySem.W.mg_of X G a4, F4.kp, b4⟩ : Cal l.prog w K mg base _ "read_walks" _ _ f4 _)
  have G5 := (⟨ok_print_row F5 G3, PySem.W.mg_of X G a5, F5.kp, b5⟩ : Cal l.prog w K mg base _ "print_row" _ _ f5 _)
  have G6 := (⟨ok_read_row F6 T B G1 G2 G4, PySem.W.mg_of X G a6, F6.kp, b6⟩ : Cal l.prog w K mg base _ "read_row" _ _ f6 _)
  have G7 := (⟨ok_print_paper F7 G5, PySem.W.mg_of X G a7, F7.kp, b7⟩ : Cal l.prog w K mg base _ "print_paper" _ _ f7 _)
  have G8 := (⟨ok_read_paper F8 T G6, PySem.W.mg_of X G a8, F8.kp, b8⟩ : Cal l.prog w K mg base _ "read_paper" _ _ f8 _)
  have G9 := (⟨ok_numbers F9 T, PySem.W.mg_of X G a9, F9.kp, b9⟩ : Cal l.prog w K mg base _ "_law_numbers" _ _ f9 _)
  have G10 := (⟨ok_same F10 T (PySem.W.mg_of X G a10) F10.kp b10 8, PySem.W.mg_of X G a10, F10.kp, b10⟩ : Cal l.prog w K mg base _ "_law_same" _ _ f10 _)
  have G11 := (⟨ok_value F11 T, PySem.W.mg_of X G a11, F11.kp, b11⟩ : Cal l.prog w K mg base _ "_law_value" _ _ f11 _)
  have G12 := (⟨ok_parted F12 T, PySem.W.mg_of X G a12, F12.kp, b12⟩ : Cal l.prog w K mg base _ "_law_parted" _ _ f12 _)
  have G13 := (⟨ok_paper_row F13 T G11 G12, PySem.W.mg_of X G a13, F13.kp, b13⟩ : Cal l.prog w K mg base _ "_law_paper_row" _ _ f13 _)
  have G14 := (⟨ok_row_line F14 T, PySem.W.mg_of X G a14, F14.kp, b14⟩ : Cal l.prog w K mg base _ "_law_row_line" _ _ f14 _)
  have G15 := (⟨ok_number F15 T, PySem.W.mg_of X G a15, F15.kp, b15⟩ : Cal l.prog w K mg base _ "_law_number" _ _ f15 _)
  have G16 := (⟨ok_walk F16 T G15, PySem.W.mg_of X G a16, F16.kp, b16⟩ : Cal l.prog w K mg base _ "_law_walk" _ _ f16 _)
  have G17 := (⟨ok_row F17 T G16, PySem.W.mg_of X G a17, F17.kp, b17⟩ : Cal l.prog w K mg base _ "_law_row" _ _ f17 _)
  have G18 := (⟨ok_spoilt F18 T, PySem.W.mg_of X G a18, F18.kp, b18⟩ : Cal l.prog w K mg base _ "_law_spoilt" _ _ f18 _)
  have G19 := (⟨ok_told F19 T B R G8, PySem.W.mg_of X G a19, F19.kp, b19⟩ : Cal l.prog w K mg base _ "_law_told" _ _ f19 _)
  have G20 := (⟨ok_due F20 T G17, PySem.W.mg_of X G a20, F20.kp, b20⟩ : Cal l.prog w K mg base _ "_law_due" _ _ f20 _)
  have G21 := (⟨ok_changes F21 T G18 G20 G19 G10, PySem.W.mg_of X G a21, F21.kp, b21⟩ : Cal l.prog w K mg base _ "_law_changes_hold" _ _ f21 _)
  exact ok_law F22 T G9 G13 G14 G7 G10 G19 G8 G21
end K54

open PySem PySem.W PyProof.Rows
set_option maxHeartbeats 0 in
theorem PySem.Challenge.cw_sheetsofcells_k54_papers_as_lines_holds : PySem.Challenge.rw_sheetsofcells_k54_papers_as_lines.Holds := by
  w_on; o_law; k_head; (case hw => w_witness2)
  k_fill
  refine L2.walk_of (l := PySem.Challenge.rw_sheetsofcells_k54_papers_as_lines) (n := 63) (k := 10) (x := "script") (CX := fun w => L2.CX (PySem.Challenge.rw_sheetsofcells_k54_papers_as_lines).prog w) (sp := fun w => K54.spLaw _) rfl (by decide) rfl ⟨rfl, by decide, by decide⟩ (fun w h Y => PySem.W.kIn_of Y) ?F (fun _ _ a ns hl _ hS => ⟨a, ns, rfl, hS, hl, fun _ => rfl⟩) (fun _ _ _ _ _ h => by
    obtain ⟨_, _, _, _, _, _, _, _, _, _, _, _, z⟩ := h
    exact z)
  case F =>
    intro w mg fa h KX G hmg
    refine' K54.all_mk KX G hmg ?a0 ?l0 ?c0 ?k0 ?a1 ?l1 ?c1 ?k1 ?a2 ?l2 ?c2 ?k2 ?a3 ?l3 ?c3 ?k3 ?a4 ?l4 ?c4 ?k4 ?a5 ?l5 ?c5 ?k5 ?a6 ?l6 ?c6 ?k6 ?a7 ?l7 ?c7 ?k7 ?a8 ?l8 ?c8 ?k8 ?a9 ?l9 ?c9 ?k9 ?a10 ?l10 ?c10 ?k10 ?a11 ?l11 ?c11 ?k11 ?a12 ?l12 ?c12 ?k12 ?a13 ?l13 ?c13 ?k13 ?a14 ?l14 ?c14 ?k14 ?a15 ?l15 ?c15 ?k15 ?a16 ?l16 ?c16 ?k16 ?a17 ?l17 ?c17 ?k17 ?a18 ?l18 ?c18 ?k18 ?a19 ?l19 ?c19 ?k19 ?a20 ?l20 ?c20 ?k20 ?a21 ?l21 ?c21 ?k21 ?a22 ?l22 ?c22 ?k22 ?z_abs ?z_enumerate ?z_int ?z_bool ?z_isinstance ?z_len ?z_list ?z_min ?z_range ?z_sorted ?z_str ?z_tuple ?cD ?cM ?aC ?xL ?xB ?sa ?ga ?gg ?nb ?iI ?tI ?lI ?cI ?oI ?vI ?fI2 ?eI ?kC ?eC ?tC ?hC ?iC ?sC ?zS ?fS ?oS ?vS ?mS ?tS ?dI
    (case a0 => k_is)
    (case l0 => k_is)
    (case c0 => k_is)
    (case k0 => k_is)
    (case a1 => k_is)
    (case l1 => k_is)
    (case c1 => k_is)
    (case k1 => k_is)
    (case a2 => k_is)
    (case l2 => k_is)
    (case c2 => k_is)
    (case k2 => k_is)
    (case a3 => k_is)
    (case l3 => k_is)
    (case c3 => k_is)
    (case k3 => k_is)
    (case a4 => k_is)
    (case l4 => k_is)
    (case c4 => k_is)
    (case k4 => k_is)
    (case a5 => k_is)
    (case l5 => k_is)
    (case c5 => k_is)
    (case k5 => k_is)
    (case a6 => k_is)
    (case l6 => k_is)
    (case c6 => k_is)
    (case k6 => k_is)
    (case a7 => k_is)
    (case l7 => k_is)
    (case c7 => k_is)
    (case k7 => k_is)
    (case a8 => k_is)
    (case l8 => k_is)
    (case c8 => k_is)
    (case k8 => k_is)
    (case a9 => k_is)
    (case l9 => k_is)
    (case c9 => k_is)
    (case k9 => k_is)
    (case a10 => k_is)
    (case l10 => k_is)
    (case c10 => k_is)
    (case k10 => k_is)
    (case a11 => k_is)
    (case l11 => k_is)
    (case c11 => k_is)
    (case k11 => k_is)
    (case a12 => k_is)
    (case l12 => k_is)
    (case c12 => k_is)
    (case k12 => k_is)
    (case a13 => k_is)
    (case l13 => k_is)
    (case c13 => k_is)
    (case k13 => k_is)
    (case a14 => k_is)
    (case l14 => k_is)
    (case c14 => k_is)
    (case k14 => k_is)
    (case a15 => k_is)
    (case l15 => k_is)
    (case c15 => k_is)
    (case k15 => k_is)
    (case a16 => k_is)
    (case l16 => k_is)
    (case c16 => k_is)
    (case k16 => k_is)
    (case a17 => k_is)
    (case l17 => k_is)
    (case c17 => k_is)
    (case k17 => k_is)
    (case a18 => k_is)
    (case l18 => k_is)
    (case c18 => k_is)
    (case k18 => k_is)
    (case a19 => k_is)
    (case l19 => k_is)
    (case c19 => k_is)
    (case k19 => k_is)
    (case a20 => k_is)
    (case l20 => k_is)
    (case c20 => k_is)
    (case k20 => k_is)
    (case a21 => k_is)
    (case l21 => k_is)
    (case c21 => k_is)
    (case k21 => k_is)
    (case a22 => k_is)
    (case l22 => k_is)
    (case c22 => k_is)
    (case k22 => k_is)
    (case z_abs => k_is)
    (case z_enumerate => k_is)
    (case z_int => k_is)
    (case z_bool => k_is)
    (case z_isinstance => k_is)
    (case z_len => k_is)
    (case z_list => k_is)
    (case z_min => k_is)
    (case z_range => k_is)
    (case z_sorted => k_is)
    (case z_str => k_is)
    (case z_tuple => k_is)
    (case cD => k_is)
    (case cM => k_is)
    (case aC => k_is)
    (case xL => k_is)
    (case xB => first | rfl | k_is)
    (case sa => k_is)
    (case ga => k_is)
    (case gg => k_is)
    (case nb => k_is)
    (case iI => k_is)
    (case tI => k_is)
    (case lI => k_is)
    (case cI => k_is)
    (case oI => k_is)
    (case vI => first | rfl | k_is)
    (case fI2 => first | rfl | k_is | decide +kernel)
    (case eI => k_is)
    (case kC => k_is)
    (case eC => k_is)
    (case tC => k_is)
    (case hC => k_is)
    (case iC => k_is)
    (case sC => first | rfl | k_is)
    (case zS => k_is)
    (case fS => ks_is)
    (case oS => k_is)
    (case vS => k_is)
    (case mS => k_is)
    (case tS => first | rfl | decide +kernel | k_is)
    (case dI => first | rfl | k_is)

