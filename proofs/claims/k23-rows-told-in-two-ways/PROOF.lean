import PyProof.Rows.All
import Wide.All
import OpenK.AllK
import Wide.FinOn
import KE.KExcSuper
import HandS.ForMost
import HandS.ForExc
import HandS.ExcInit
import HandS.ExcIs
import HandS.IsInst
import HandS.ExcSuper
import HandS.Wide
import HandS.ExcValue
import HandS.Head0
import HandS.Head1
import HandS.Head2
import HandS.HeadEnd
import HandS.HeadHook1
import HandS.HeadHook2
import HandS.EndTab
import HandS.HeadWalk
import HandS.HeadHook4
import HandS.Defaults
import HandS.MakeKw
import HandS.MakeKwOnly
import HandS.Style
import HandS.Lambda
import HandS.TryMany
import HandS.OwnEq
import HandS.TupAny
import HandS.TupMul
import HandS.TupLe
import HandS.SlotsOwn
import HandS.Spec
import HandS.ExcField
import HandS.ExcOwn
import KE.DatumIndex
import PySem.Challenge.RW_growwebs_k23_rows_told_in_two_ways
set_option Elab.async false
set_option linter.all false
set_option maxRecDepth 100000
set_option maxHeartbeats 2000000
/-! Errors of one's own over WebError: made by position and by name, held, read, raised. -/
namespace PySem
namespace GW
open PySem.W PySem.Calls PyProof.Rows PySem.HandSPX
section
variable {M : Model} {A : Around} {E : Value → Shared → Prop} {h : Heap} {g : Array GenState} {d : Drawn} {t : Nat} {os : OsState}
variable {nm q : Str} {C N : Addr} {bs bm bmB : List Value} {hdct : Bool} {sn : List Str} {sub : List Value} {ab : Bool} {col : Option Bool} {dd : Option Addr} {k0 k1 k2 k3 k5 : Option Value} {B newId initId : String}
theorem chk_kw (Fb : ExcBaseFacts B newId initId bmB) (hT : ∀ X : String, bm.contains (.type X) = bmB.contains (.type X)) {ps : List Value} {kw : List (Str × Value)} {Q : Unit → Shared → Prop}
    (hC : h.get? C = some (excClassObj nm q C N bs bm hdct sn sub ab col dd k0 k1 k2 k3 k5 newId)) (hq : Q () ⟨h, g, d, t, os⟩) : wpAny M A (checkBuiltinCall newId ⟨.ref C :: ps, kw⟩) Q E ⟨h, g, d, t, os⟩ := by
  have hc1 : (Value.ref C :: bm).contains (.type B) = true := by rw [List.contains_cons, hT, Fb.hasB, Bool.or_true]
  have hs1 := Fb.noStar
  simp only [checkBuiltinCall, Fb.newKind, Fb.newSplit, Fb.newRow]
  repeat (first | refine wpAny_loadPart_at hC ?_ | (refine wpAny_isSubtype_exc hC ?_; rw [hc1]) | refine wpAny_staticBase_exc hC ?_ | refine wpAny_madeBy_exc hC ?_ | simp only [bne_self_eq_false, Bool.false_eq_true, if_false] | wp_step)
  exact hq
end
section
variable {prog : Program} {w : World} {A : Around} {E : Value → Shared → Prop} {R : Result → Shared → Prop} {h : Heap} {g : Array GenState} {d : Drawn} {t : Nat} {os : OsState}
variable {nm q : Str} {C N : Addr} {bs bm bmB : List Value} {hdct : Bool} {sn : List Str} {sub : List Value} {ab : Bool} {col : Option Bool} {dd : Option Addr} {k0 k1 k2 k3 k5 : Option Value} {B newId initId : String}
theorem new_kw (Fb : ExcBaseFacts B newId initId bmB) (hT : ∀ X : String, bm.contains (.type X) = bmB.contains (.type X)) {ps : List Value} {kw : List (Str × Value)}
    (hC : h.get? C = some (excClassObj nm q C N bs bm hdct sn sub ab col dd k0 k1 k2 k3 k5 newId))
    (hq : R (.ok (.ret (.ref (h.objs.size + 1)))) ⟨(h.push { cls := .type "tuple", data := .seq ps.toArray }).push
      { cls := .ref C, data := .fields #[.ref h.objs.size, .none, .none, .none, .bool false, .none] }, g, d, t, os⟩) (hz : ps.length ≤ sizeLine) :
    codeAny (model prog w) A (.builtin newId ⟨.ref C :: ps, kw⟩) R ⟨h, g, d, t, os⟩ := by
  have he1 := Fb.ends
  have hc1 : (Value.ref C :: bm).contains (.type B) = true := by rw [List.contains_cons, hT, Fb.hasB, Bool.or_true]
  have hc2 : (Value.ref C :: bm).contains (.type "AttributeError") = false := by rw [List.contains_cons, hT, Fb.noAttr]; rfl
  have hc3 : (Value.ref C :: bm).contains (.type "NameError") = false := by rw [List.contains_cons, hT, Fb.noName]; rfl
  refine codeAny_builtinAt Fb.entry ?_
  unfold Builtin.«BaseException.__new__»
  refine wpAt_bind ?_
  show wpAt _ _ _ (stack >>= _) _ _ _
  refine wpAt_bind (wpAt_stack fun p below => wpAt_of_wpAny ?_)
  wp_walk
  refine wpAt_of_wpAny ?_
  rw [Fb.owner]
  repeat (first | with_reducible refine wpAny_madeHere_exc Fb.canon hC ?_ | with_reducible refine wpAny_loadPart_at hC ?_ | (with_reducible refine wpAny_isSubtype_exc hC ?_; first | rw [hc1] | rw [hc2] | rw [hc3]) | wp_step)
  show R _ _
  rw [Heap.size_push]
  exact hq
theorem tcall_kw (Fb : ExcBaseFacts B newId initId bmB) (hT : ∀ X : String, bm.contains (.type X) = bmB.contains (.type X)) {ps : List Value} {kw : List (Str × Value)} {fI : Addr} {Q : Fin → Shared → Prop}
    (hC : h.get? C = some (excClassObj nm q C N bs bm hdct sn sub ab col dd k0 k1 k2 k3 k5 newId))
    (hi : W.Looks (model prog w) h (typeLookup (.ref C) "__init__") (some (.ref fI))) (hb : ∀ self, W.Looks (model prog w) h (bindSpecial (.ref fI) self) (.ref fI, [self])) (hz : ps.length ≤ sizeLine)
    (hq : codeAny (model prog w) A (.call (.ref fI) ⟨.ref (h.objs.size + 1) :: ps, kw⟩)
      (fun r s' => match r with | .ok (.ret v) => v = .none ∧ Q (.done (.ret (.ref (h.objs.size + 1)))) s' | .ok _ => False | .error e => E e s')
      ⟨(h.push (W.kdv_tup ps)).push (excO C h.objs.size), g, d, t, os⟩) :
    wpAny (model prog w) A (Builtin.«type.__call__» ⟨.ref C :: ps, kw⟩) Q E ⟨h, g, d, t, os⟩ := by
  repeat (first | with_reducible refine wpAny_loadPart_at hC ?_ | with_reducible refine wpAny_madeBy_exc hC ?_ | wp_step)
  refine codeAny_call_builtin_code (Code.quiet_builtin _ Fb.quiet) (chk_kw Fb hT hC ?_)
  refine new_kw Fb hT hC ?_ hz
  show wpAny _ _ _ _ _ _
  have kk : ∀ b o, h.get? b = some o → ((h.push (W.kdv_tup ps)).push (excO C h.objs.size)).get? b = some o := fun b o e => Heap.get?_push_of_some _ (Heap.get?_push_of_some _ e)
  have hC1 := kk _ _ hC
  have hg1 : ((h.push (W.kdv_tup ps)).push (excO C h.objs.size)).get? (h.objs.size + 1) = some (excO C h.objs.size) := by heap_get
  have hcC : (Value.ref C :: bm).contains (.ref C) = true := by simp
  have i1 := hi.keeps kk
  have b1 := (hb (.ref (h.objs.size + 1))).keeps kk
  unfold isInstance
  repeat (first | with_reducible refine wpAny_loadPart_at hg1 ?_ | (with_reducible refine wpAny_isSubtype_exc hC1 ?_; rw [hcC]) | wp_step)
  show wpAny _ _ (typeLookup (.ref C) _) _ _ _
  refine i1.at ?_
  refine wpAny_holding (wpAny_bind (b1.at ?_))
  refine wpAny_bind (wpAny_call (codeAny_mono hq fun r s' z => ?_))
  rcases r with e | (v | _ | _ | _) <;> first | exact z | exact z.elim | skip
  obtain ⟨rfl, z⟩ := z
  first
    | exact wpAny_pure (wpAny_pure z)
    | (wp_walk; exact z)
theorem call_kw (Fb : ExcBaseFacts B newId initId bmB) (hT : ∀ X : String, bm.contains (.type X) = bmB.contains (.type X)) {ps : List Value} {kw : List (Str × Value)} {fI : Addr}
    (hC : h.get? C = some (excClassObj nm q C N bs bm hdct sn sub ab col dd k0 k1 k2 k3 k5 newId))
    (hi : W.Looks (model prog w) h (typeLookup (.ref C) "__init__") (some (.ref fI))) (hb : ∀ self, W.Looks (model prog w) h (bindSpecial (.ref fI) self) (.ref fI, [self])) (hz : ps.length ≤ sizeLine)
    (hq : codeAny (model prog w) (A.under (.builtin "type.__call__" ⟨.ref C :: ps, kw⟩)) (.call (.ref fI) ⟨.ref (h.objs.size + 1) :: ps, kw⟩) (W.InitBack (h.objs.size + 1) R)
      ⟨(h.push (W.kdv_tup ps)).push (excO C h.objs.size), g, d, t, os⟩) :
    codeAny (model prog w) A (.call (.ref C) ⟨ps, kw⟩) R ⟨h, g, d, t, os⟩ := by
  have f1 := tc_lookup
  have f2 := tc_bind (.ref C)
  have hTy : (⟨h, g, d, t, os⟩ : Shared).TypeIs (.ref C) "type" := ⟨_, hC, rfl⟩
  refine codeAny_of_tree ?_
  show wpAny _ _ (callAny (.ref C) _) _ _ _
  repeat (any_goals (first | assumption | with_reducible refine wpAny_loadPart_at hC ?_ | wp_step))
  refine ⟨rfl, ?_⟩
  refine codeAny_call_builtin_at (Code.quiet_builtin _ (by decide +kernel)) entry_typeCall (wpAny_check_type_call_sub hC (tcall_kw Fb hT hC hi hb hz ?_))
  refine codeAny_mono hq fun r s' z => ?_
  rcases r with e | (v | _ | _ | _) <;> exact z
end
end GW
end PySem
set_option Elab.async false
set_option linter.all false
set_option maxRecDepth 100000
set_option maxHeartbeats 4000000
namespace PySem
namespace GW
open PySem.W PySem.Calls PyProof.Rows PySem.HandSPX
/-- a field of an error: its name and the places in the text -/
structure Fl where
  f : Str
  a : Pos
  q1 : Pos
  q2 : Pos
  q3 : Pos
  q4 : Pos
def eStores (l : List Fl) : List Stmt := l.map fun p => .Assign [.Attribute (.Name "self" p.q1) p.f p.q2] (.Name p.f p.q3) p.q4
def eNames (l : List Fl) : List Expr := l.map fun p => .Name p.f p.a
def eBody (r0 r1 r2 r3 r4 : Pos) (l : List Fl) : List Stmt := .Expr (.Call (.Attribute (.Call (.Name "super" r0) [] [] r1) "__init__" r2) (eNames l) [] r3) r4 :: eStores l
/-- the class of an error, as the top has made it -/
structure ErrC (K : Frag) (C : Addr) : Prop where
  cls : ∃ nm q N bs bm sn sub ab col dd k0 k1 k2 k3 k5, K.lookup C = some (excClassObj nm q C N bs bm true sn sub ab col dd k0 k1 k2 k3 k5 "ValueError.__new__") ∧ refsVE bm = true
  sa : findIn K (.ref C) "__setattr__" = some (some (.builtin "object.__setattr__"))
  sup : ks_superIn K C C "__init__" = some (some (.builtin "ValueError.__init__"))
  opq : nsIn K cStatics "thirdparty.any" = some none
  subB : subIn K (.ref C) (.type "ValueError") = some true
  subC : mroIn K C (.ref C) = some true
/-- its __init__ -/
structure ErrI (prog : Program) (K : Frag) (mg : Str → Option Value) (C fI : Addr) (params : Arguments) (scope : Scope) (l : List Fl) : Prop where
  ini : findIn K (.ref C) "__init__" = some (some (.ref fI))
  tI : typeIn K (.ref fI) = some (.type "function")
  no : ∀ p ∈ l, findIn K (.ref C) p.f = some none
  nd : (("self" : Str) :: l.map (·.f)).Nodup
  ne : l ≠ []
  few : l.length ≤ 10
  hd : ∃ p, params.posonlyargs ++ params.args = { arg := "self", annotation := none, pos := p } :: (params.posonlyargs ++ params.args).tail
  sk : scope.kind = .function
  sco : scope.isCoroutine = false
  sge : scope.isGenerator = false
  ss : scope.names.lookup ("super" : Str) = some .globalImplicit
  sc : scope.names.lookup ("__class__" : Str) = some .free
  sl : ∀ y ∈ (("self" : Str) :: l.map (·.f)), scope.names.lookup y = some .local
  scell : ∀ x ∈ scope.names, x.2 ≠ .cell
  nodeb : ∀ p ∈ l, (p.f == ("__debug__" : Str)) = false
  msup : mg "super" = none
  ptop : (prog.main.scope.names.lookup ("super" : Str)).isSome = false
  fn : ∃ (oc : Value) (od : Option Addr) (qual : Str) (r0 r1 r2 r3 r4 : Pos) (doc pm : Value) (an : Option Addr) (cda : Addr) (ct : Value) (cc : Addr) (osl : Array (Option Value)),
    K.lookup fI = some ⟨oc, od, .func (ksFn "__init__" qual params (eBody r0 r1 r2 r3 r4 l) scope .none .none doc pm an (.ref cda) ct cc), osl⟩ ∧ codeIn K (.ref cda) qual = true ∧ (r2.endLine == r3.line) = true ∧
    (∃ cl cld csl, K.lookup cc = some ⟨cl, cld, .cell (some (.ref C)), csl⟩) ∧
    ∃ ccl cdd vs ccs file tf, K.lookup cda = some ⟨ccl, cdd, .fields vs, ccs⟩ ∧ vs[2]? = some (.str file tf) ∧ ((prog.main.file : Str) == file) = true
theorem lookup_zip_rev : ∀ (xs : List Str) (vs : List Value), xs.Nodup → xs.length = vs.length → ∀ y, ((xs.zip vs).reverse).lookup y = (xs.zip vs).lookup y
  | [], _, _, _, _ => by simp
  | x :: xs, [], _, h, _ => by simp at h
  | x :: xs, v :: vs, nd, h, y => by
    have nd' := List.nodup_cons.mp nd
    have ih := lookup_zip_rev xs vs nd'.2 (by simpa using h) y
    rw [List.zip_cons_cons, List.reverse_cons, List.lookup_append, ih]
    by_cases e : y = x
    · subst e
      have q : (xs.zip vs).lookup y = none := by
        rw [List.lookup_eq_none_iff]
        intro p hp
        have := (List.of_mem_zip (a := p.1) (b := p.2) hp).1
        simp
        intro e
        exact nd'.1 (e ▸ this)
      rw [q]
      simp [List.lookup]
    · have e' : (y == x) = false := by simpa using e
      cases q : (xs.zip vs).lookup y <;> simp [List.lookup, e', q]
/-- a made error at x -/
structure Made (h h' : Heap) (x C : Addr) (m : Str → Option Value) : Prop where
  keep : ∀ b o, b ≠ x → h.get? b = some o → h'.get? b = some o
  obj : ∃ dx t1, h'.get? x = some { cls := .ref C, dict := some dx, data := .fields #[.ref t1, .none, .none, .none, .bool false, .none] } ∧ h.objs.size ≤ dx ∧ dx ≠ x ∧ h'.Ns1 dx m
section
variable {prog : Program} {w : World} {A : Around} {E : Value → Shared → Prop} {R : Result → Shared → Prop} {s : Shared} {K : Frag} {mg : Str → Option Value} {C fI : Addr}
theorem mw_call {hp : Heap} {g : Array GenState} {d : Drawn} {t : Nat} {os : OsState} {nm q : Str} {N : Addr} {bs bm : List Value} {hdct : Bool} {sn : List Str} {sub : List Value} {ab : Bool} {col : Option Bool} {dd : Option Addr} {k0 k1 k2 k3 k5 : Option Value}
    {u e t0 : Addr} {rest : List Value} {Q : Value → Shared → Prop}
    (hC : hp.get? C = some (excClassObj nm q C N bs bm hdct sn sub ab col dd k0 k1 k2 k3 k5 "ValueError.__new__")) (he : hp.get? e = some (excO C t0)) (hu : hp.get? u = some (kxs_mw "ValueError.__init__" e)) (hz : rest.length ≤ sizeLine)
    (hq : ∀ h' t1, (∀ b o, b ≠ e → hp.get? b = some o → h'.get? b = some o) → h'.get? e = some (excO C t1) → Q .none ⟨h', g, d, t, os⟩) :
    wpAny (model prog w) A (call (.ref u) rest) Q E ⟨hp, g, d, t, os⟩ := by
  refine wpAny_call (codeAny_of_tree ?_)
  show wpAny _ A.in1 (callAny (.ref u) ⟨rest, []⟩) _ _ _
  simp only [callAny]
  refine wpAny_bind (wpAny_load hu ?_)
  simp only [kxs_mw, show (Value.type "method-wrapper" == Value.type "method" || Value.type "method-wrapper" == Value.type "builtin_function_or_method" || Value.type "method-wrapper" == Value.type "method-wrapper") = true by decide, if_true]
  refine W.KFB.if_so (by decide) ?_
  refine wpAny_bind (ESX.check_bound F.excBase_ValueError hC he rfl ?_)
  refine wpAny_bind (wpAny_pure (wpAny_pure ?_))
  refine ⟨Code.quiet_builtin _ (by decide +kernel), codeAny_builtin F.excBase_ValueError.initEntry ?_⟩
  rw [Around.under_plainId F.excBase_ValueError.init.plain _]
  wp_walk
  refine hq _ hp.objs.size (fun b o hb ho => ?_) ?_
  · rw [Heap.get?_update_other _ _ (Ne.symm hb)]
    exact Heap.get?_push_of_some _ ho
  · rw [Heap.get?_update_self _ (Heap.get?_push_of_some _ he) rfl]
    rfl
/-- the names of the fields, evaluated in a row -/
theorem names_at {env : Env} {m : Str → Option Value} {pos : Pos} (hk : env.scope.kind = .function) : ∀ (l : List Fl) (vs : List Value) (s : Shared) (Q : List Value → Shared → Prop), s.heap.Ns env.locals m →
    (∀ p ∈ l, env.kindOf p.f = some .local) → (∀ p ∈ l, (p.f == ("__debug__" : Str)) = false) → l.map (fun p => m p.f) = vs.map some → Q vs s → wpAny (model prog w) A (spliced (backTo pos (starEach (eNames l) env))) Q E s
  | [], [], s, Q, _, _, _, _, h => PyProof.Rows.spliced_none h
  | [], _ :: _, s, Q, _, _, _, e, h => by simp at e
  | _ :: _, [], s, Q, _, _, _, e, h => by simp at e
  | p :: l, v :: vs, s, Q, hn, hl, hd, e, h => by
    simp only [List.map_cons, List.cons.injEq] at e
    show wpAny _ _ (spliced (backTo pos (starEach (Expr.Name p.f p.a :: eNames l) env))) _ _ _
    refine PyProof.Rows.spliced_more ?_
    refine wpAny_Name (wpAny_loadName_local hk (hl p List.mem_cons_self) hn e.1 ?_) (hd p List.mem_cons_self)
    exact names_at hk l vs s _ hn (fun q hq => hl q (List.mem_cons_of_mem _ hq)) (fun q hq => hd q (List.mem_cons_of_mem _ hq)) e.2 h
theorem names_plain {env : Env} {pos : Pos} : ∀ (l : List Fl), (backTo pos (starEach (eNames l) env)).any (·.1) = false
  | [] => rfl
  | p :: l => by
    have ih := names_plain (env := env) (pos := pos) l
    cases l with
    | nil => rfl
    | cons q l => exact ih
theorem names_form {env : Env} {pos : Pos} : ∀ (l : List Fl), (backTo pos (starEach (eNames l) env)).all (!·.1) = true
  | [] => rfl
  | p :: l => by
    have ih := names_form (env := env) (pos := pos) l
    cases l with
    | nil => rfl
    | cons q l => exact ih
theorem names_args {M : Model} {A : Around} {E : Value → Shared → Prop} {s : Shared} {env : Env} {pos : Pos} {f : Value} {Q : Args → Shared → Prop} : ∀ {l : List Fl}, l ≠ [] →
    wpAny M A (spliced (backTo pos (starEach (eNames l) env))) (fun vs s₁ => Q ⟨vs, []⟩ s₁) E s → wpAny M A (evalArgs f true (backTo pos (starEach (eNames l) env)) []) Q E s
  | [], ne, _ => absurd rfl ne
  | p :: l, _, h => by
    have he : starEach (eNames (p :: l)) env = (false, eval (.Name p.f p.a) env) :: starEach (eNames l) env := rfl
    rw [he] at h ⊢
    exact evalArgs_plain h
/-- super().__init__(f, ..) as the evaluator takes it -/
theorem super_eval {env : Env} {r0 r1 r2 r3 : Pos} {l : List Fl} (few : l.length ≤ 10) (ln : (r2.endLine == r3.line) = true) :
    eval (.Call (.Attribute (.Call (.Name "super" r0) [] [] r1) "__init__" r2) (eNames l) [] r3) env = (do
      let ov ← attributeBase (.Call (.Name "super" r0) [] [] r1) "__init__" env (eval (.Call (.Name "super" r0) [] [] r1) env)
      standAt r2.atName
      let (f, first) ← holding [ov] (getMethod ov "__init__" (do return (← importBound (.Call (.Name "super" r0) [] [] r1) env).getD true))
      callWith r3 f first (backTo r3 (starEach (eNames l) env)) []) := by
  have e1 : methodCallForm ((eNames l).length + 0) (backTo r3 (starEach (eNames l) env)) [] = true := by
    unfold methodCallForm
    rw [names_form]
    have : (eNames l).length = l.length := by unfold eNames; simp
    simp [this]
    omega
  rw [arm_eval_Call]
  congr 1
  funext ov
  congr 1
  funext _
  show methodCall _ _ _ _ _ _ ((eNames l).length + 0) _ [] = _
  unfold methodCall
  rw [e1]
  unfold calleeOf methodCallPos
  simp only [if_true, Bool.not_true, Bool.false_or, ln]
  rfl
end
end GW
end PySem
set_option Elab.async false
set_option linter.all false
set_option maxRecDepth 100000
set_option maxHeartbeats 4000000
namespace PySem
namespace GW
open PySem.W PySem.Calls PyProof.Rows PySem.HandSPX
theorem within_lookup (done : List (Str × Value)) : Within (fun y => done.lookup y) (done.map (·.1)) := fun y hy => by
  cases q : done.lookup y with
  | none => exact absurd q hy
  | some v =>
    obtain ⟨l1, l2, e, _⟩ := List.lookup_eq_some_iff.mp q
    rw [e]
    simp
theorem ns1_eq {h : Heap} {a : Addr} {m m' : Str → Option Value} (x : h.Ns1 a m) (e : ∀ y, m y = m' y) : h.Ns1 a m' := by
  have : m = m' := funext e
  rw [← this]
  exact x
theorem lookup_put (done : List (Str × Value)) (f : Str) (v : Value) (y : Str) : (if y = f then some v else done.lookup y) = ((f, v) :: done).lookup y := by
  by_cases e : y = f
  · subst e
    rw [if_pos rfl]
    simp [List.lookup]
  · have e' : (y == f) = false := by simpa using e
    rw [if_neg e]
    simp [List.lookup, e']
section
variable {prog : Program} {w : World} {A : Around} {E : Value → Shared → Prop} {R : Result → Shared → Prop} {s : Shared} {K : Frag} {mg : Str → Option Value} {C fI : Addr}
/-- self.f = f, for every further field: the error at x has its dict at dx -/
theorem stores_more {env : Env} {m : Str → Option Value} {x dx t1 : Addr} (T : ErrC K C) (hk : env.scope.kind = .function) (hx : K.lookup x = none) (hself : env.kindOf "self" = some .local) (ms : m "self" = some (.ref x)) :
    ∀ (l : List Fl) (vs : List Value) (done : List (Str × Value)) (s : Shared) (Q : Flow → Shared → Prop), K.In s.heap → K.lookup dx = none → dx ≠ env.locals → dx ≠ x → s.heap.Ns env.locals m →
    s.heap.get? x = some { cls := .ref C, dict := some dx, data := .fields #[.ref t1, .none, .none, .none, .bool false, .none] } → s.heap.Ns1 dx (fun y => done.lookup y) → done.length + l.length ≤ 100 →
    (∀ p ∈ l, env.kindOf p.f = some .local) → (∀ p ∈ l, (p.f == ("__debug__" : Str)) = false) → (∀ p ∈ l, findIn K (.ref C) p.f = some none) → l.map (fun p => m p.f) = vs.map some →
    (∀ h' tk, (∀ b o, b ≠ dx → s.heap.get? b = some o → h'.get? b = some o) → h'.Ns1 dx (fun y => (((l.map (·.f)).zip vs).reverse ++ done).lookup y) → Q .next { s with heap := h', toks := tk }) →
    wpAny (model prog w) A (execs (eStores l) env) Q E s
  | [], vs, done, s, Q, X, hdx, hL, hdne, hn, ho, hns, few, hl, hd, hno, e, h => by
    refine wpAny_execs_nil ?_
    exact h s.heap s.toks (fun _ _ _ q => q) (by simpa using hns)
  | p :: l, [], done, s, Q, X, hdx, hL, hdne, hn, ho, hns, few, hl, hd, hno, e, h => by simp at e
  | p :: l, v :: vs, done, s, Q, X, hdx, hL, hdne, hn, ho, hns, few, hl, hd, hno, e, h => by
    simp only [List.map_cons, List.cons.injEq] at e
    obtain ⟨nm, q, N, bs, bm, sn, sub, ab, col, dd, k0, k1, k2, k3, k5, hC, hbm⟩ := T.cls
    have hcl : clsIn K C = some { name := nm, bases := bs, mro := .ref C :: bm, ns := N, qualname := q, hasDict := true, slotNames := sn, subclasses := sub, abstract := ab, collection := col, hasDel := false } := by unfold clsIn; rw [hC] <;> rfl
    show wpAny _ _ (execs (Stmt.Assign [.Attribute (.Name "self" p.q1) p.f p.q2] (.Name p.f p.q3) p.q4 :: eStores l) env) _ _ _
    refine wpAny_execs_cons (plainObj_wpAny_Assign_Attribute ?_)
    refine wpAny_Name (wpAny_loadName_local hk (hl p List.mem_cons_self) hn e.1 ?_) (hd p List.mem_cons_self)
    refine wpAny_Name (wpAny_loadName_local hk hself hn ms ?_) (by decide)
    obtain ⟨oD, esD, epD, hoD, hdD, _⟩ := hns.count (within_lookup done)
    refine set_plain X (ox := { cls := .ref C, dict := some dx, data := .fields #[.ref t1, .none, .none, .none, .bool false, .none] }) (od := some oD) ⟨ho, rfl, rfl, hoD⟩ T.sa ?_
    obtain ⟨hp, g, d, t, os⟩ := s
    refine OEX.osa_old X ho hns (within_lookup done) (by rw [List.length_map]; simp at few; omega) hcl (show refsVE (.ref C :: bm) = true from hbm) rfl (hno p List.mem_cons_self) (fun h' tk k' ns' => ?_)
    show wpAny _ _ (execs _ _) _ _ _
    have X' : K.In h' := fun a o q => k' a o (fun z => by rw [z, hdx] at q; cases q) (X a o q)
    refine stores_more (x := x) (t1 := t1) T hk hx hself ms l vs ((p.f, v) :: done) ⟨h', g, d, tk, os⟩ Q X' hdx hL hdne (hn.at fun o q => k' _ o hL.symm q) (k' _ _ hdne.symm ho) (ns1_eq ns' fun y => lookup_put done p.f v y) (by simp at few ⊢; omega)
      (fun q hq => hl q (List.mem_cons_of_mem _ hq)) (fun q hq => hd q (List.mem_cons_of_mem _ hq)) (fun q hq => hno q (List.mem_cons_of_mem _ hq)) e.2 fun h2 tk2 k2 n2 => ?_
    refine h h2 tk2 (fun b o hb q => k2 b o hb (k' b o hb q)) (ns1_eq n2 fun y => ?_)
    simp
def mm (x : Addr) (l : List Fl) (vs : List Value) (y : Str) : Option Value := List.lookup y (((Str.ofString "self") :: l.map (fun p => p.f)).zip (Value.ref x :: vs))
theorem mm_self {x : Addr} {l : List Fl} {vs : List Value} : mm x l vs (Str.ofString "self") = some (Value.ref x) := by
  unfold mm
  simp [List.lookup]
theorem map_lookup : ∀ (xs : List Str) (ws : List Value), xs.Nodup → xs.length = ws.length → xs.map (fun y => (xs.zip ws).lookup y) = ws.map some
  | [], [], _, _ => rfl
  | [], _ :: _, _, e => by simp at e
  | _ :: _, [], _, e => by simp at e
  | y :: ys, v :: ws, nd, e => by
    have nd' := List.nodup_cons.mp nd
    have r := map_lookup ys ws nd'.2 (by simpa using e)
    simp only [List.map_cons, List.zip_cons_cons]
    congr 1
    · simp [List.lookup]
    · rw [← r]
      refine List.map_congr_left fun z hz => ?_
      have e' : (z == y) = false := by
        simp
        intro e
        exact nd'.1 (e ▸ hz)
      simp [List.lookup, e']
theorem mm_fields {x : Addr} {l : List Fl} {vs : List Value} (nd0 : ((Str.ofString "self") :: l.map (fun p => p.f)).Nodup) (hlen : l.length = vs.length) : l.map (fun p => mm x l vs p.f) = vs.map some := by
  have nd := List.nodup_cons.mp nd0
  have r := map_lookup (l.map (fun p => p.f)) vs nd.2 (by simpa using hlen)
  rw [List.map_map] at r
  rw [← r]
  refine List.map_congr_left fun p hp => ?_
  have e' : (p.f == (Str.ofString "self")) = false := by
    simp
    intro e
    exact nd.1 (e ▸ List.mem_map_of_mem hp)
  unfold mm
  simp [List.lookup, e']
theorem err_init {params : Arguments} {scope : Scope} {l : List Fl} (T : ErrC K C) (I : ErrI prog K mg C fI params scope l) {x t0 : Addr} {vs : List Value} {args : Args} (Md : L2.Mod K mg s.heap) (hx : s.heap.get? x = some (excO C t0)) (hnx : K.lookup x = none)
    (hroom : A.depth < recursionLimit) (hlen : l.length = vs.length)
    (hbind : ∀ (qual : Str) (body : List Stmt) (doc pm : Value) (an : Option Addr) (cda : Value) (ct : Value) (cc : Addr), BindsTo s (ksFn "__init__" qual params body scope .none .none doc pm an cda ct cc) args (((Str.ofString "self") :: l.map (fun p => p.f)).zip (Value.ref x :: vs)))
    (hq : ∀ h' tk, Made s.heap h' x C (fun y => List.lookup y ((l.map (fun p => p.f)).zip vs)) → R (.ok (.ret .none)) { s with heap := h', toks := tk }) :
    codeAny (model prog w) A (.call (.ref fI) args) R s := by
  obtain ⟨oc, od, qual, r0, r1, r2, r3, r4, doc, pm, an, cda, ct, cc, osl, ho, hcd, hln, ⟨cl, cld, csl, hcell⟩, ccl, cdd, fvs, ccs, file, tf, hcode, hvs, hfile⟩ := I.fn
  obtain ⟨nm, q, N, bs, bm, sn, sub, ab, col, dd, k0, k1, k2, k3, k5, hC, hbm⟩ := T.cls
  have hcl : clsIn K C = some { name := nm, bases := bs, mro := .ref C :: bm, ns := N, qualname := q, hasDict := true, slotNames := sn, subclasses := sub, abstract := ab, collection := col, hasDel := false } := by unfold clsIn; rw [hC] <;> rfl
  obtain ⟨mb, hmb, hbo⟩ := Md.blt
  have X := Md.kin
  have hlen' : ((Str.ofString "self") :: l.map (fun p => p.f)).length = (Value.ref x :: vs).length := by simp [hlen]
  refine ks_codeAny_call_defAt (fd := ksFn "__init__" qual params (eBody r0 r1 r2 r3 r4 l) scope .none .none doc pm an (.ref cda) ct cc) (body := eBody r0 r1 r2 r3 r4 l) (binds := ((Str.ofString "self") :: l.map (fun p => p.f)).zip (Value.ref x :: vs))
    hroom (X _ _ ho) rfl Md.nolimit (codeRec_of X hcd) rfl (hbind _ _ _ _ _ _ _ _) I.scell (fun y hy => I.sl _ (List.of_mem_zip (a := y.1) (b := y.2) hy).1) (fun h₁ hns kk => ?_) I.sco I.sge I.sk
  obtain ⟨hp, g, d, t, os⟩ := s
  have hxL : hp.objs.size ≠ x := Nat.ne_of_gt (Heap.lt_size hx)
  have X₁ : K.In h₁ := X.keeps kk
  have hx₁ := kk _ _ hx
  have env_eq : callEnv (ksFn "__init__" qual params (eBody r0 r1 r2 r3 r4 l) scope .none .none doc pm an (.ref cda) ct cc) hp.objs.size fI = ksEnv qual scope hp.objs.size fI (.ref cda) cc := rfl
  rw [env_eq]
  have hns' : h₁.Ns hp.objs.size (mm x l vs) := by
    have e : mm x l vs = fun y => List.lookup y (((Str.ofString "self") :: l.map (fun p => p.f)).zip (Value.ref x :: vs)).reverse := funext fun y => (lookup_zip_rev _ _ I.nd hlen' y).symm
    rw [e]
    exact hns
  have mf : l.map (fun p => mm x l vs p.f) = vs.map some := mm_fields I.nd hlen
  have kself : (ksEnv qual scope hp.objs.size fI (.ref cda) cc).kindOf "self" = some .local := I.sl _ List.mem_cons_self
  have kf : ∀ p ∈ l, (ksEnv qual scope hp.objs.size fI (.ref cda) cc).kindOf p.f = some .local := fun p hp => I.sl _ (List.mem_cons_of_mem _ (List.mem_map_of_mem hp))
  have hi : interactive (ksEnv qual scope hp.objs.size fI (.ref cda) cc) = false := by
    unfold interactive
    rw [show (ksEnv qual scope hp.objs.size fI (.ref cda) cc).scope.kind = .function from I.sk]
    rfl
  refine ks_wpAt_execs_cons (ks_wpAt_Expr_any (ks_wpAt_MethodCall ?_ (super_eval I.few hln)) hi (by cases l <;> rfl))
  obtain ⟨ap, hap⟩ := I.hd
  obtain ⟨oD, hD1, hD2⟩ : ∃ oD, h₁.get? C = some oD ∧ oD.data = .cls { name := nm, bases := bs, mro := .ref C :: bm, ns := N, qualname := q, hasDict := true, slotNames := sn, subclasses := sub, abstract := ab, collection := col, hasDel := false } := ⟨_, X₁ _ _ hC, rfl⟩
  refine ks_wpAt_super_base (env := ksEnv qual scope hp.objs.size fI (.ref cda) cc) (ar := { arg := "self", annotation := none, pos := ap }) I.ss I.sc (by decide) rfl (X₁ _ _ ho) rfl (by show (params.posonlyargs ++ params.args).head? = _; rw [hap]; rfl) rfl (X₁ _ _ hcode) rfl hvs hfile I.ptop ?_
  refine ks_loadName_global I.sk I.ss (loadGlobal_builtin (env := ksEnv qual scope hp.objs.size fI (.ref cda) cc) (Md.glob.keeps kk) I.msup (hmb.keeps kk) ((hbo _ (by decide +kernel)).trans (by decide +kernel)) ⟨rfl, ?_⟩)
  refine wpAny_loadName_free I.sk I.sc rfl ⟨_, X₁ _ _ hcell, rfl⟩ ?_
  refine wpAny_loadName_local I.sk kself hns' mm_self ?_
  refine ks_wpAny_isType_cls hD1 hD2 ⟨rfl, ?_⟩
  have IA : InstAt h₁ x (excO C t0) C none := ⟨hx₁, rfl, rfl, trivial⟩
  refine ks_wpAny_call_super hD1 hD2 hx₁ rfl (fun c e => by cases e) (looks_mroIn X₁ T.subC) (fun h₂ e₂ kk₂ => ?_)
  have X₂ : K.In h₂ := X₁.keeps kk₂
  have IA₂ : InstAt h₂ x (excO C t0) C none := ⟨kk₂ _ _ hx₁, rfl, rfl, trivial⟩
  have hm := T.sup
  unfold ks_superIn at hm
  rw [hcl] at hm
  refine kxs_getMethod kxs_ValueError e₂ (looks_opaque X₂ T.opq) (l₀ := .ref C :: bm) ?_ rfl X₂ hm (IA₂.type.andThen (looks_subIn X₂ T.subB)) (ks_ne X₂ IA₂ hcl) (by decide) ?_
  · exact fun A Q E s k q => wpAny_bind ((looks_clsIn X₂ hcl) A _ E s k (wpAny_pure q))
  have kk₃ : ∀ b o, h₂.get? b = some o → (h₂.push (kxs_mw "ValueError.__init__" x)).get? b = some o := fun b o e => Heap.get?_push_of_some _ e
  have k13 : ∀ b o, h₁.get? b = some o → (h₂.push (kxs_mw "ValueError.__init__" x)).get? b = some o := fun b o e => kk₃ b o (kk₂ b o e)
  refine kxs_callWith (i := "ValueError.__init__") (x := x) (names_plain l) ?_
  refine names_args I.ne ?_
  refine names_at I.sk l vs _ _ (hns'.keeps k13) kf I.nodeb mf ?_
  have hmw : (h₂.push (kxs_mw "ValueError.__init__" x)).get? h₂.objs.size = some (kxs_mw "ValueError.__init__" x) := Heap.get?_push_at rfl rfl
  refine ⟨hmw, ?_⟩
  have hvl : vs.length ≤ sizeLine := by
    have := I.few
    rw [sizeLine_eq]
    omega
  refine mw_call (rest := vs) (t0 := t0) (k13 _ _ (X₁ _ _ hC)) (k13 _ _ hx₁) hmw hvl (fun h₄ t1 kk₄ hx₄ => ?_)
  refine wpAt_of_wpAny ?_
  have nxC : ∀ a o, K.lookup a = some o → a ≠ x := fun a o e z => by rw [z, hnx] at e; cases e
  have X₄ : K.In h₄ := fun a o e => kk₄ a o (nxC a o e) (k13 _ _ (X₁ a o e))
  have hL₄ : h₄.Ns hp.objs.size (mm x l vs) := (hns'.keeps k13).at fun o e => kk₄ _ o hxL e
  have old₄ : ∀ b o, b ≠ x → hp.get? b = some o → h₄.get? b = some o := fun b o hb e => kk₄ b o hb (k13 b o (kk b o e))
  have hne := I.ne
  have hno := I.no
  have hdb := I.nodeb
  have hfew := I.few
  have hnd := (List.nodup_cons.mp I.nd).2
  cases l with
  | nil => exact absurd rfl hne
  | cons p l =>
    cases vs with
    | nil => simp at hlen
    | cons v vs =>
      simp only [List.map_cons, List.cons.injEq] at mf
      show wpAny _ _ (execs (Stmt.Assign [.Attribute (.Name "self" p.q1) p.f p.q2] (.Name p.f p.q3) p.q4 :: eStores l) _) _ _ _
      refine wpAny_execs_cons (plainObj_wpAny_Assign_Attribute ?_)
      refine wpAny_Name (wpAny_loadName_local I.sk (kf p List.mem_cons_self) hL₄ mf.1 ?_) (hdb p List.mem_cons_self)
      refine wpAny_Name (wpAny_loadName_local I.sk kself hL₄ mm_self ?_) (by decide)
      refine set_plain X₄ (ox := excO C t1) (od := none) ⟨hx₄, rfl, rfl, trivial⟩ T.sa ?_
      refine exc_osa X₄ hx₄ hcl (show refsVE (.ref C :: bm) = true from hbm) rfl (hno p List.mem_cons_self) (fun h₅ tk₅ dx k₅ dn dne hx₅ hn₅ => ?_)
      show wpAny _ _ (execs _ _) _ _ _
      have z4 : hp.objs.size < h₄.objs.size := hL₄.lt
      have nKd : K.lookup dx = none := by
        cases e : K.lookup dx with
        | none => rfl
        | some o => exact absurd (Heap.lt_size (X₄ _ _ e)) (Nat.not_lt.mpr dn)
      have X₅ : K.In h₅ := fun a o e => k₅ a o (nxC a o e) (X₄ a o e)
      have dL : dx ≠ hp.objs.size := Nat.ne_of_gt (Nat.lt_of_lt_of_le z4 dn)
      refine stores_more (x := x) (dx := dx) (t1 := t1) T I.sk hnx kself mm_self l vs [(p.f, v)] _ _ X₅ nKd dL dne (hL₄.at fun o e => k₅ _ o hxL e) hx₅ (ns1_eq hn₅ fun y => lookup_put [] p.f v y) (by simp at hfew ⊢; omega)
        (fun q hq => kf q (List.mem_cons_of_mem _ hq)) (fun q hq => hdb q (List.mem_cons_of_mem _ hq)) (fun q hq => hno q (List.mem_cons_of_mem _ hq)) mf.2 fun h₆ tk₆ k₆ n₆ => ?_
      refine hq h₆ tk₆ ⟨fun b o hb e => ?_, dx, t1, k₆ _ _ dne.symm hx₅, Nat.le_trans (Nat.le_of_lt z4) dn, dne, ns1_eq n₆ fun y => ?_⟩
      · refine k₆ b o ?_ (k₅ b o hb (old₄ b o hb e))
        exact Nat.ne_of_lt (Nat.lt_of_lt_of_le (Nat.lt_trans (Heap.lt_size e) z4) dn)
      · have e1 : (((l.map (fun p => p.f)).zip vs).reverse ++ [(p.f, v)]) = (((p :: l).map (fun p => p.f)).zip (v :: vs)).reverse := by simp
        rw [e1]
        exact lookup_zip_rev _ _ hnd (by simpa using hlen) y
end
end GW
end PySem
set_option Elab.async false
set_option linter.all false
set_option maxRecDepth 100000
set_option maxHeartbeats 4000000
namespace PySem
namespace GW
open PySem.W PySem.Calls PyProof.Rows PySem.HandSPX
/-- a new error at e, its own dict at d -/
structure NewErr (h h' : Heap) (e C d : Addr) (m : Str → Option Value) : Prop where
  keep : ∀ b o, h.get? b = some o → h'.get? b = some o
  new : h.objs.size ≤ e
  dnew : h.objs.size ≤ d
  dne : d ≠ e
  obj : ∃ t1, h'.get? e = some { cls := .ref C, dict := some d, data := .fields #[.ref t1, .none, .none, .none, .bool false, .none] }
  ns : h'.Ns1 d m
theorem mod_keeps {K : Frag} {mg : Str → Option Value} {h h' : Heap} (M : L2.Mod K mg h) (k : ∀ b o, h.get? b = some o → h'.get? b = some o) : L2.Mod K mg h' :=
  ⟨M.kin.keeps k, M.glob.keeps k, let ⟨mb, e, q⟩ := M.blt; ⟨mb, e.keeps k, q⟩, M.nolimit.keeps k⟩
section
variable {prog : Program} {w : World} {A : Around} {E : Value → Shared → Prop} {R : Result → Shared → Prop} {s : Shared} {K : Frag} {mg : Str → Option Value} {C fI : Addr}
theorem err_made {params : Arguments} {scope : Scope} {l : List Fl} (T : ErrC K C) (I : ErrI prog K mg C fI params scope l) {ps vs : List Value} {kw : List (Str × Value)} (Md : L2.Mod K mg s.heap)
    (hroom : A.depth + 1 < recursionLimit) (hlen : l.length = vs.length) (hz : ps.length ≤ sizeLine)
    (hbind : ∀ (s' : Shared) (e : Addr) (qual : Str) (body : List Stmt) (doc pm : Value) (an : Option Addr) (cda : Value) (ct : Value) (cc : Addr), BindsTo s' (ksFn "__init__" qual params body scope .none .none doc pm an cda ct cc) ⟨.ref e :: ps, kw⟩ (((Str.ofString "self") :: l.map (fun p => p.f)).zip (Value.ref e :: vs)))
    (hq : ∀ h' tk e d, NewErr s.heap h' e C d (fun y => List.lookup y ((l.map (fun p => p.f)).zip vs)) → R (.ok (.ret (.ref e))) { s with heap := h', toks := tk }) :
    codeAny (model prog w) A (.call (.ref C) ⟨ps, kw⟩) R s := by
  obtain ⟨nm, q, N, bs, bm, sn, sub, ab, col, dd, k0, k1, k2, k3, k5, hC, hbm⟩ := T.cls
  obtain ⟨hp, g, d, t, os⟩ := s
  have X := Md.kin
  have kk : ∀ b o, hp.get? b = some o → ((hp.push (kdv_tup ps)).push (excO C hp.objs.size)).get? b = some o := fun b o e => Heap.get?_push_of_some _ (Heap.get?_push_of_some _ e)
  have hget : ((hp.push (kdv_tup ps)).push (excO C hp.objs.size)).get? (hp.objs.size + 1) = some (excO C hp.objs.size) := by heap_get
  have hnx : K.lookup (hp.objs.size + 1) = none := by
    cases e : K.lookup (hp.objs.size + 1) with
    | none => rfl
    | some o =>
      have z : hp.get? (hp.objs.size + 1) = some o := X _ _ e
      exact absurd (Nat.lt_of_succ_lt (Heap.lt_size z)) (Nat.lt_irrefl _)
  refine call_kw F.excBase_ValueError (fun X => refsVE_contains X bm hbm) (X _ _ hC) (looks_findIn X I.ini) (fun self => bind_fn X self I.tI) hz ?_
  refine err_init (s := ⟨(hp.push (kdv_tup ps)).push (excO C hp.objs.size), g, d, t, os⟩) T I (mod_keeps Md kk) hget hnx ?_ hlen (fun qual body doc pm an cda ct cc => hbind _ _ _ _ _ _ _ _ _ _) fun h' tk' M => ?_
  · show A.depth + 1 < recursionLimit
    exact hroom
  · obtain ⟨dx, t1, hx, dn, dne, hns⟩ := M.obj
    have old : ∀ b o, hp.get? b = some o → h'.get? b = some o := fun b o e => M.keep b o (Nat.ne_of_lt (Nat.lt_succ_of_lt (Heap.lt_size e))) (kk b o e)
    have z : hp.objs.size ≤ dx := by
      have q : ((hp.push (kdv_tup ps)).push (excO C hp.objs.size)).objs.size ≤ dx := dn
      rw [Heap.size_push, Heap.size_push] at q
      omega
    exact ⟨rfl, hq h' tk' (hp.objs.size + 1) dx ⟨old, Nat.le_succ _, z, dne, ⟨t1, hx⟩, hns⟩⟩
end
end GW
end PySem
namespace L2
open PySem PySem.Spec PyProof.Rows PySem.GW
/-- the module's facts at the state at hand -/
theorem Inv.modNow {X : Cx} {pins : List (Addr × Obj)} {σ : St} {H : Hp} {s : Shared} (I : Inv X pins σ H s) : Mod X.K X.mg s.heap := mod_keeps I.ok.mod I.bk
/-- how the values and the keywords of a call come to the fields of an error -/
def EBind (params : Arguments) (scope : Scope) (l : List Fl) (n : Nat) (ks : List Str) : Prop :=
  ∀ (us ws : List Value), us.length = n → ws.length = ks.length → ∀ (s' : Shared) (e : Addr) (qual : Str) (body : List Stmt) (doc pm : Value) (an : Option Addr) (cda : Value) (ct : Value) (cc : Addr),
    BindsTo s' (PySem.W.ksFn "__init__" qual params body scope .none .none doc pm an cda ct cc) ⟨.ref e :: us, ks.zip ws⟩ (((Str.ofString "self") :: l.map (fun p => p.f)).zip (Value.ref e :: (us ++ ws)))
/-- e makes a new error of the class at C, whose fields fs hold the values that t tells -/
def PEr (X : Cx) (e : Expr) (C : Addr) (fs : List Str) (t : TA) : Prop :=
  ∀ (pins : List (Addr × Obj)) (s : Shared) (σ : St) (H : Hp) (Q : List V → Hp → Prop), Inv X pins σ H s → t σ H Q → wpAny (model X.prog X.w) X.A (eval e X.env)
    (fun u s' => ∃ (a d : Addr) (vs : List V) (us : List Value) (H' : Hp) (s1 : Shared) (h' : Heap) (tk : Nat), u = .ref a ∧ Inv X pins σ H' s1 ∧ s' = { s1 with heap := h', toks := tk } ∧ NewErr s1.heap h' a C d (fun y => List.lookup y (fs.zip us)) ∧ Vals vs us ∧ fs.length = us.length ∧ Q vs H') X.xe s
section
variable {X : Cx} {C fI : Addr} {x : Str} {p pos : Pos} {e : Expr} {es : List Expr} {kws : List Keyword} {t tk : TA} {params : Arguments} {scope : Scope} {l : List Fl} {n k : Nat} {ks : List Str}
def tApp (n m : Nat) (t tk : TA) : TA := fun σ H Q => t σ H fun vs H1 => tk σ H1 fun zs H2 => vs.length = n ∧ zs.length = m ∧ Q (vs ++ zs) H2
def tLen (n : Nat) (t : TA) : TA := fun σ H Q => t σ H fun vs H1 => vs.length = n ∧ Q vs H1
theorem err_run (T : ErrC X.K C) (I : ErrI X.prog X.K X.mg C fI params scope l) (hr : Room k X.A) (hb : EBind params scope l n ks) (hn : n + ks.length = l.length) {pins : List (Addr × Obj)} {σ : St} {H : Hp} {s : Shared} {Q : List V → Hp → Prop} {us ws : List Value} {vs zs : List V}
    (J : Inv X pins σ H s) (r : Vals vs us) (rz : Vals zs ws) (l1 : vs.length = n) (l2 : zs.length = ks.length) (h : Q (vs ++ zs) H) :
    wpAny (model X.prog X.w) X.A (call (.ref C) us (ks.zip ws)) (fun u s' => ∃ (a d : Addr) (vs : List V) (us : List Value) (H' : Hp) (s1 : Shared) (h' : Heap) (tk : Nat), u = .ref a ∧ Inv X pins σ H' s1 ∧ s' = { s1 with heap := h', toks := tk } ∧ NewErr s1.heap h' a C d (fun y => List.lookup y ((l.map (fun p => p.f)).zip us)) ∧ Vals vs us ∧ (l.map (fun p => p.f)).length = us.length ∧ Q vs H') X.xe s := by
  have e1 : us.length = n := r.length.symm.trans l1
  have e2 : ws.length = ks.length := rz.length.symm.trans l2
  have few := I.few
  have hl : l.length = (us ++ ws).length := by rw [List.length_append]; omega
  refine wpAny_call (err_made T I J.modNow (by have := hr.dp; omega) hl (by rw [sizeLine_eq]; omega) (hb us ws e1 e2) fun h' tk a d M => ?_)
  exact ⟨a, d, vs ++ zs, us ++ ws, H, s, h', tk, rfl, J, rfl, M, Vals.append r rz, by rw [List.length_map]; exact hl, h⟩
theorem per_pos (T : ErrC X.K C) (I : ErrI X.prog X.K X.mg C fI params scope l) (hr : Room k X.A) (hg : Gl X x) (gC : X.mg x = some (.ref C)) (kC : PySem.W.keepIn X.K (.ref C) = true) (hb : EBind params scope l l.length [])
    (ha : PA X (e :: es) t) (hdb : (x == ("__debug__" : Str)) = false := by decide) (he : starEach (e :: es) X.env = (false, eval e X.env) :: starEach es X.env := by rfl) (hpl : (backTo pos (starEach es X.env)).any (·.1) = false := by rfl) :
    PEr X (.Call (.Name x p) (e :: es) [] pos) C (l.map (fun p => p.f)) (tLen l.length t) := by
  intro pins s σ H Q J h
  refine wpAny_Call_Name_kw (ld_glob J hg gC ?_ hdb)
  refine PySem.W.callWith_K (h₀ := X.base) J.ok.mod.kin kC (thn (ha.run pos pins s σ H _ J h) fun us s1 hh => ?_) he hpl
  obtain ⟨vs, H1, J1, r, q1, q2⟩ := hh
  refine ⟨J1.kIn, ?_⟩
  have := err_run (zs := []) (ws := []) T I hr hb (by simp) J1 r .nil q1 rfl (Q := Q) (by simpa using q2)
  simpa using this
theorem per_mix (T : ErrC X.K C) (I : ErrI X.prog X.K X.mg C fI params scope l) (hr : Room k X.A) (hg : Gl X x) (gC : X.mg x = some (.ref C)) (kC : PySem.W.keepIn X.K (.ref C) = true) (hb : EBind params scope l n ks) (hn : n + ks.length = l.length)
    (ha : PA X (e :: es) t) (hkw : PK X kws tk) (hall : (backToKw pos (keywordEach kws X.env)).all (·.1.isSome) = true := by rfl) (hks : (backToKw pos (keywordEach kws X.env)).filterMap (·.1) = ks := by rfl)
    (hdb : (x == ("__debug__" : Str)) = false := by decide) (he : starEach (e :: es) X.env = (false, eval e X.env) :: starEach es X.env := by rfl)
    (hpl : ((backTo pos (starEach (e :: es) X.env)).any (·.1) || (backToKw pos (keywordEach kws X.env)).any (·.1.isNone)) = false := by rfl) :
    PEr X (.Call (.Name x p) (e :: es) kws pos) C (l.map (fun p => p.f)) (tApp n ks.length t tk) := by
  intro pins s σ H Q J h
  refine wpAny_Call_Name_kw (ld_glob J hg gC ?_ hdb)
  refine PySem.W.callWith_KW (h₀ := X.base) J.ok.mod.kin kC hall (thn (ha.run pos pins s σ H _ J h) fun us s1 ⟨vs, H1, J1, r, q⟩ => ?_) hpl he
  refine thn (hkw.run pos pins s1 σ H1 _ J1 q) fun ws s2 ⟨zs, H2, J2, rz, l1, l2, q2⟩ => ⟨J2.kIn, ?_⟩
  rw [hks]
  exact err_run T I hr hb hn J2 r rz l1 l2 q2
theorem per_kw (T : ErrC X.K C) (I : ErrI X.prog X.K X.mg C fI params scope l) (hr : Room k X.A) (hg : Gl X x) (gC : X.mg x = some (.ref C)) (kC : PySem.W.keepIn X.K (.ref C) = true) (hb : EBind params scope l 0 ks) (hn : ks.length = l.length)
    (hkw : PK X kws tk) (hall : (backToKw pos (keywordEach kws X.env)).all (·.1.isSome) = true := by rfl) (hks : (backToKw pos (keywordEach kws X.env)).filterMap (·.1) = ks := by rfl)
    (hdb : (x == ("__debug__" : Str)) = false := by decide)
    (hpl : ((backTo pos (starEach [] X.env)).any (·.1) || (backToKw pos (keywordEach kws X.env)).any (·.1.isNone)) = false := by rfl) :
    PEr X (.Call (.Name x p) [] kws pos) C (l.map (fun p => p.f)) (tLen ks.length tk) := by
  intro pins s σ H Q J h
  refine wpAny_Call_Name_kw (ld_glob J hg gC ?_ hdb)
  refine PySem.W.callWith_KW0 (h₀ := X.base) J.ok.mod.kin kC hall (thn (hkw.run pos pins s σ H _ J h) fun ws s2 ⟨zs, H2, J2, rz, l2, q2⟩ => ⟨J2.kIn, ?_⟩) hpl
  rw [hks]
  exact err_run (vs := []) T I hr hb (by omega) J2 .nil rz rfl l2 q2
end
end L2
set_option Elab.async false
set_option linter.all false
set_option maxRecDepth 100000
set_option maxHeartbeats 4000000
namespace PySem
namespace GW
open PySem PySem.W PySem.Spec PySem.Calls PyProof.Rows PySem.HandSPX
section
variable {prog : Program} {w : World} {A : Around} {E : Value → Shared → Prop} {s : Shared} {K : Frag} {x D : Addr} {ox : Obj} {od : Option Obj}
theorem findObj_any {C : Addr} {name : Str} {a g : Value} (hc : (clsIn K C).isSome = true) (ha : findIn K (.ref C) name = some (some a)) (hg : specialIn K a "__get__" = some (some g)) (ht : takesIn K a = some true) : findObj K C od name = some (.bind g a) := by
  obtain ⟨cd, hcd⟩ := Option.isSome_iff_exists.mp hc
  unfold findObj
  rw [hcd, Option.bind_some, ha, Option.bind_some]
  simp [hg, ht]
theorem class_of {Q : Option Value → Shared → Prop} (Z : L2.ExcC K D) (X : K.In s.heap) (I : InstAt s.heap x ox D od) (h : Q (some (.ref D)) { s with toks := s.toks + 1 }) : wpAny (model prog w) A (getAttr? (.ref x) "__class__") Q E s := by
  have hf : findObj K D od "__class__" = some (.bind (.builtin "getset_descriptor.__get__") (.builtin "object.__class__")) := findObj_any (by obtain ⟨cd, hc, _⟩ := any_some Z.hd; rw [hc]; rfl) Z.ha Z.hn Z.ht
  obtain ⟨hp, g, d, t, os⟩ := s
  have g0 := I.type (M := model prog w)
  have g1 := looks_findIn (M := model prog w) X Z.hg
  have g2 := looks_findIn (M := model prog w) X Z.hk
  have g3 := looks_find (M := model prog w) X I hf
  have su : Looks (model prog w) hp (isInstance (.ref x) (.type "BaseException")) true := g0.andThen (looks_subIn X Z.hs)
  have b0 : (false && onTheHeap (Value.builtin "BaseException.__getattribute__")) = false := rfl
  have b2 : (Value.builtin "BaseException.__getattribute__" == Value.builtin "object.__getattribute__") = false := by decide +kernel
  have b1 : (onTheHeap (Value.ref D) && Value.builtin "BaseException.__getattribute__" == Value.builtin "object.__getattribute__") = false := by rw [b2]; rfl
  unfold getAttr? getAttrBy? getAttrBy
  refine wpAny_bind (wpAny_mkText (wpAny_bind (wpAny_attempt (wpAny_holding (wpAny_bind (g0.at (wpAny_bind (g1.at ?_))))))))
  show wpAny _ _ (if (onTheHeap (Value.ref D) && Value.builtin "BaseException.__getattribute__" == Value.builtin "object.__getattribute__") = true then _ else _) _ _ _
  rw [b1, if_neg Bool.false_ne_true]
  unfold getAttrByItsOwn hookBefore
  refine wpAny_bind ?_
  rw [if_pos (show onTheHeap (Value.ref D) = true from rfl)]
  refine g2.at ?_
  refine wpAny_bind (wpAny_attempt (wpAny_holding ?_))
  unfold callGetattribute
  rw [b0, if_neg Bool.false_ne_true]
  unfold boundAndCalled
  rw [PySem.F.excAttr_ValueError.ga.bind (.ref x)]
  refine wpAny_bind (wpAny_pure ?_)
  show wpAny _ _ (call (.builtin "BaseException.__getattribute__") [.ref x, .str "__class__" t]) _ _ _
  refine wpAny_call (codeAny_call_builtin PySem.F.excAttr_ValueError.ga.plain PySem.F.entry_bexc_ga ?_)
  refine @check_slot (model prog w) _ _ ⟨hp, g, d, t + 1, os⟩ "BaseException.__getattribute__" "BaseException" "__getattribute__" (.ref x) [.str "__class__" t] [] _ (by decide +kernel) (by decide +kernel) su (PySem.F.args_bexc_ga (.ref x) (.str "__class__" t)) ?_
  unfold Builtin.«object.__getattribute__»
  refine wpAny_bind (wpAny_of_eq (a := ((Value.ref x : Value), [Value.str "__class__" t])) (by first | rfl | (simp only [slotArgs]; rfl)) ?_)
  refine wpAny_bind (wpAny_pure (wpAny_bind (g0.at (wpAny_bind (g3.at ?_)))))
  show wpAny _ _ (holding [Value.builtin "object.__class__"] (call (.builtin "getset_descriptor.__get__") [.builtin "object.__class__", .ref x, .ref D]) >>= ret) _ _ _
  refine wpAny_bind (wpAny_holding (wpAny_call (class_get (s := ⟨hp, g, d, t + 1, os⟩) (ox := ox) (od := od) X I Z.hm ?_)))
  refine wpAny_pure ?_
  show wpAny _ _ (handedOut (.ref D)) _ _ _
  rw [handedOut_of (v := .ref D) rfl]
  first
    | exact wpAny_pure (wpAny_pure h)
    | exact wpAny_pure h
    | exact wpAny_pure (wpAny_bind (wpAny_pure (wpAny_pure h)))
theorem kit_err (Z : L2.ExcC K D) : KitX K (.ref x) (.ref D) (fun h => ∃ ox od, InstAt h x ox D od) where
  ty := fun _ _ _ ⟨_, _, I⟩ => I.type
  it := fun _ _ X _ => by
    obtain ⟨cdD, hcD, _⟩ := any_some Z.hd
    unfold clsIn at hcD
    split at hcD
    · rename_i c' d' cd' sl' ho
      intro A' Q' E' s' k q
      unfold isType loadHead
      exact wpAny_bind (wpAny_loadPart (k _ _ (X _ _ ho)) (wpAny_pure q))
    · cases hcD
  ne := fun h tp dd its n sl X htp => by
    obtain ⟨cdD, hcD, _⟩ := any_some Z.hd
    refine Bool.eq_false_iff.mpr fun q => ?_
    have e : D = tp := Value.ref.inj (beq_iff_eq.mp q)
    subst e
    unfold clsIn at hcD
    split at hcD
    · rename_i c' d' cd' sl' ho
      have z := (X _ _ ho).symm.trans htp
      cases z
    · cases hcD
  ca := fun X ⟨_, _, I⟩ k => class_of Z X I k
end
end GW
end PySem
namespace L2
open PySem PySem.Spec PyProof.Rows PySem.GW
/-- an error of the class at C that is held: with its own dict, or without one -/
def errO (a C : Addr) (d : Option Addr) : HO := .ext fun h => ∃ (oe : Obj) (vs : Array Value), h.get? a = some oe ∧ oe.cls = .ref C ∧ oe.dict = d ∧ oe.data = .fields vs
theorem errO_ok {P : Program} {w : World} {H : Hp} {h : Heap} {a C : Addr} {d : Option Addr} {oe : Obj} {vs : Array Value} (e : h.get? a = some oe) (c : oe.cls = .ref C) (q : oe.dict = d) (dt : oe.data = .fields vs) : ObjOk P w H h a (errO a C d) :=
  ⟨⟨oe, vs, e, c, q, dt⟩, ⟨oe, e⟩, fun h1 h2 ⟨o1, v1, e1, c1, q1, d1⟩ k => ⟨o1, v1, k _ e1, c1, q1, d1⟩⟩
theorem errO_at {P : Program} {w : World} {H : Hp} {h : Heap} {a C : Addr} {d : Option Addr} (ok : HOk P w H h) (e : H a = some (errO a C d)) : ∃ (oe : Obj) (vs : Array Value), h.get? a = some oe ∧ oe.cls = .ref C ∧ oe.dict = d ∧ oe.data = .fields vs := (ok a _ e).1
theorem relO_zip : ∀ {fs : List Str} {vs : List V} {us : List Value}, Vals vs us → ∀ f : Str, RelO (List.lookup f (fs.zip vs)) (List.lookup f (fs.zip us))
  | [], _, _, _, f => by simp [List.lookup, RelO]
  | g :: fs, [], [], _, f => by simp [List.lookup, RelO]
  | g :: fs, v :: vs, u :: us, .cons r rs, f => by
    by_cases e : f = g
    · subst e
      simp [List.lookup, RelO]
      exact r
    · have e' : (f == g) = false := by simpa using e
      simp only [List.zip_cons_cons, List.lookup, e']
      exact relO_zip rs f
section
variable {X : Cx} {C : Addr} {fs : List Str} {e : Expr} {t : TA} {pos pos2 : Pos} {f : Str}
/-- the class as a reader of its fields -/
structure ErrG (K : PySem.W.Frag) (C : Addr) : Prop where
  ga : PySem.W.findIn K (.ref C) "__getattribute__" = some (some (.builtin "BaseException.__getattribute__"))
  gg : PySem.W.findIn K (.ref C) "__getattr__" = some none
  ex : PySem.W.subIn K (.ref C) (.type "BaseException") = some true
  hd : PySem.W.hasDictIn K C = true
/-- C(..).f -/
theorem pe_errF (G : ErrG X.K C) (no : PySem.W.findIn X.K (.ref C) f = some none) (hE : PEr X e C fs t) (hb : attributeBase e f X.env (eval e X.env) = eval e X.env := by rfl) :
    PE X (.Attribute e f pos) (fun σ H Q => t σ H fun vs H1 => ∃ v, List.lookup f (fs.zip vs) = some v ∧ Q v H1) := by
  refine ⟨fun pins s σ H Q I h => ?_⟩
  refine attr_of hb (thn (hE pins s σ H _ I h) fun u s1 hh => ?_)
  obtain ⟨a, d, vs, us, H', s0, h', tk, rfl, J, rfl, M, r, hl, v, hv, q⟩ := hh
  obtain ⟨t1, ho⟩ := M.obj
  obtain ⟨od, hod, hlk⟩ := lookIn_ns M.ns
  obtain ⟨u, hu, ru⟩ := RelO.some_of (v := v) (o := List.lookup f (fs.zip us)) (by rw [← hv]; exact relO_zip r f)
  have J2 : Inv X pins σ H' { s0 with heap := h', toks := tk } := J.kept M.keep
  have K2 : PySem.W.InstAt h' a { cls := .ref C, dict := some d, data := .fields #[.ref t1, .none, .none, .none, .bool false, .none] } C (some od) := ⟨ho, rfl, rfl, hod⟩
  exact HandSPX.exc_get J2.kIn K2 G.ga G.gg G.ex (PySem.W.findObj_own G.hd no rfl (by rw [hlk, hu])) (handed_of ru) ⟨v, H', J2.tok _, ru, q⟩
/-- C(..) as a value that is held -/
theorem pe_err (hE : PEr X e C fs t) : PE X e (fun σ H Q => t σ H fun vs H1 => ∀ a d, H1 a = none → H1 d = none → d ≠ a → Q (.ref a) (upd (upd H1 d (.xd (fs.zip vs))) a (errO a C (some d)))) := by
  refine ⟨fun pins s σ H Q I h => wpAny_mono (hE pins s σ H _ I h) (fun u s1 hh => ?_) fun _ _ z => z⟩
  obtain ⟨a, d, vs, us, H', s0, h', tk, rfl, J, rfl, M, r, hl, q⟩ := hh
  obtain ⟨t1, ho⟩ := M.obj
  obtain ⟨G', g1, g2⟩ := restrict h' fun b => decide (b ≠ a)
  have gk : ∀ b, b ≠ a → G'.get? b = h'.get? b := fun b hb => g1 b (decide_eq_true hb)
  have ge : G'.get? a = none := g2 a (by simp)
  have old : ∀ b o, s0.heap.get? b = some o → G'.get? b = some o := fun b o q => (gk b (Nat.ne_of_lt (Nat.lt_of_lt_of_le (Heap.lt_size q) M.new))).trans (M.keep b o q)
  have ob : ObjOk X.prog X.w (upd H' d (.xd (fs.zip vs))) G' d (.xd (fs.zip vs)) := ⟨_, M.ns.at (fun o q => (gk d M.dne).trans q), fun f => relO_zip r f⟩
  have J1 : Inv X pins σ (upd H' d (.xd (fs.zip vs))) { s0 with heap := G', toks := tk } := J.laid (t' := tk) old M.dnew ob
  have na : H' a = none := J.hok.fresh M.new
  have nd : H' d = none := J.hok.fresh M.dnew
  have up : ∀ b o, G'.get? b = some o → h'.get? b = some o := fun b o q => by
    by_cases hb : b = a
    · rw [hb, ge] at q; cases q
    · exact (gk b hb).symm.trans q
  have na2 : (upd H' d (.xd (fs.zip vs))) a = none := by rw [upd_ne M.dne.symm]; exact na
  have J2 := J1.laidN (t' := tk) (h' := h') (a := a) (o := errO a C (some d)) up ge na2 (errO_ok ho rfl rfl rfl)
  exact ⟨.ref a, _, J2, rfl, q a d na nd M.dne⟩
/-- raise C(..) -/
theorem pmk_err (R : Raises X (.ref C)) (hE : PEr X e C fs t) : PMk X e (fun σ H Q => t σ H fun vs H1 => ∀ d, H1 d = none → Q (.ref C) (some d) (upd H1 d (.xd (fs.zip vs)))) := by
  intro pins s σ H Q I h
  refine wpAny_mono (hE pins s σ H _ I h) (fun u s1 hh => ?_) fun _ _ z => z
  obtain ⟨a, d, vs, us, H', s0, h', tk, rfl, J, rfl, M, r, hl, q⟩ := hh
  obtain ⟨t1, ho⟩ := M.obj
  obtain ⟨G', g1, g2⟩ := restrict h' fun b => decide (b ≠ a)
  have gk : ∀ b, b ≠ a → G'.get? b = h'.get? b := fun b hb => g1 b (decide_eq_true hb)
  have ge : G'.get? a = none := g2 a (by simp)
  have old : ∀ b o, s0.heap.get? b = some o → G'.get? b = some o := fun b o q => (gk b (Nat.ne_of_lt (Nat.lt_of_lt_of_le (Heap.lt_size q) M.new))).trans (M.keep b o q)
  have ob : ObjOk X.prog X.w (upd H' d (.xd (fs.zip vs))) G' d (.xd (fs.zip vs)) := ⟨_, M.ns.at (fun o q => (gk d M.dne).trans q), fun f => relO_zip r f⟩
  have J1 : Inv X pins σ (upd H' d (.xd (fs.zip vs))) { s0 with heap := G', toks := tk } := J.laid (t' := tk) old M.dnew ob
  refine ⟨a, _, _, { s0 with heap := G', toks := tk }, _, .ref C, some d, rfl, J1, fun b o q => ?_, ge, ho, ⟨rfl, rfl⟩, rfl, rfl, ?_, rfl, J.bare, R, q d (J.hok.fresh M.dnew)⟩
  · by_cases hb : b = a
    · have q' : G'.get? b = some o := q
      rw [hb, ge] at q'; cases q'
    · exact (gk b hb).symm.trans q
  · rw [upd_ne (Ne.symm M.dne)]
    exact J.hok.fresh M.new
end
section
variable {X : Cx}
theorem err_inst {P : Program} {w : World} {H : Hp} {h : Heap} {a C : Addr} {d : Option Addr} (ok : HOk P w H h) (e : H a = some (errO a C d)) (hd : ∀ dd, d = some dd → ∃ fs, H dd = some (.xd fs)) : ∃ ox od, PySem.W.InstAt h a ox C od := by
  obtain ⟨oe, vs, h1, h2, h3, h4⟩ := errO_at ok e
  have nc : PySem.W.notCls oe = true := by unfold PySem.W.notCls; rw [h4]
  cases d with
  | none => exact ⟨oe, none, h1, h2, nc, by rw [h3]; trivial⟩
  | some dd =>
    obtain ⟨fs, hx⟩ := hd dd rfl
    obtain ⟨mA, hns, _⟩ := (show ObjOk P w H h dd (.xd fs) from ok dd _ hx)
    obtain ⟨od, ho, _⟩ := lookIn_ns hns
    exact ⟨oe, some od, h1, h2, nc, by rw [h3]; exact ho⟩
/-- isinstance(e, c), e an error that is held -/
def rIsErr (K : PySem.W.Frag) : List V → Hp → VK → Prop := fun xs H Q => ∃ (a C : Addr) (d : Option Addr) (c : V) (cv : Value) (b : Bool), xs = [.ref a, c] ∧ H a = some (errO a C d) ∧ (∀ dd, d = some dd → ∃ fs, H dd = some (.xd fs)) ∧ ExcC K C ∧ ClsV c cv ∧ PySem.W.kitOne K (.ref C) cv = some b ∧ Q (.bl b) H
theorem call_isErr : CallR X (.builtin "isinstance") (rIsErr X.K) := by
  intro pins s σ H xs us Q I r h
  obtain ⟨a, C, d, c, cv, b, rfl, ha, hd, Z, k, e, q⟩ := h
  obtain ⟨u1, u2, rfl, r1, r2⟩ := vals2 r
  have e2 := k.eq r2
  subst e2
  cases (show u1 = Value.ref a from r1)
  exact PySem.W.kia_one (kit_err Z) I.kIn (err_inst I.hok ha hd) e (fun z => nomatch z) fun tk => ⟨.bl b, H, I.tok tk, rfl, q⟩
def rIsErrT (K : PySem.W.Frag) : List V → Hp → VK → Prop := fun xs H Q => ∃ (a C : Addr) (d : Option Addr) (tp : Addr) (cs : List V) (us : List Value) (b : Bool), xs = [.ref a, .ref tp] ∧ H a = some (errO a C d) ∧ (∀ dd, d = some dd → ∃ fs, H dd = some (.xd fs)) ∧ ExcC K C ∧ H tp = some (.tup cs) ∧ Paired ClsV cs us ∧ PySem.W.kitAny K (.ref C) us = some b ∧ Q (.bl b) H
theorem call_isErrT : CallR X (.builtin "isinstance") (rIsErrT X.K) := by
  intro pins s σ H xs us Q I r h
  obtain ⟨a, C, d, tp, cs, ws, b, rfl, ha, hd, Z, hT, k, e, q⟩ := h
  obtain ⟨u1, u2, rfl, r1, r2⟩ := vals2 r
  cases (show u1 = Value.ref a from r1)
  cases (show u2 = Value.ref tp from r2)
  obtain ⟨_, its, rv, o, h1, h2, n, h3⟩ := (show ObjOk X.prog X.w H s.heap tp (.tup cs) from I.hok tp _ hT)
  have e3 := ClsV.all k rv
  subst e3
  obtain ⟨oc, od, dt, sl⟩ := o
  simp only at h2 h3
  subst h2 h3
  exact PySem.W.kia_tup (kit_err Z) I.kIn (err_inst I.hok ha hd) h1 e (fun z => nomatch z) fun tk => ⟨.bl b, H, I.tok tk, rfl, q⟩
/-- raise C(), C without an __init__ of its own -/
theorem pmk_err0 {C : Addr} {bmB : List Value} {B newId initId : String} {x : Str} {p pos : Pos} (F : ExcBaseFacts B newId initId bmB) (q : PySem.W.excIn X.K C bmB newId = true) (gC : X.mg x = some (.ref C)) (kC : PySem.W.keepIn X.K (.ref C) = true) (R : Raises X (.ref C)) (hg : Gl X x)
    (hdb : (x == ("__debug__" : Str)) = false := by decide) : PMk X (.Call (.Name x p) [] [] pos) (fun _ H Q => Q (.ref C) none H) := by
  intro pins s σ H Q I h
  refine wpAny_Call_Name_kw (ld_glob I hg gC ?_ hdb)
  refine PySem.W.callWith_K0 I.kIn kC ?_
  show wpAny _ _ (call (.ref C) []) _ _ _
  obtain ⟨bm, N, nm, qn, bs, hdct, sn, sub, ab, col, dd, k0, k1, k2, k3, k5, mN, hC, hN, hni, T⟩ := exc_obj I.kIn q
  refine wpAny_call_exc_subT F T hC hN hni (fun h' a hm => ?_) (by show 0 ≤ sizeLine; omega)
  have hn : H a = none := I.hok.gone hm.new
  obtain ⟨t, ht, _, _⟩ := hm.there
  exact ⟨a, _, _, s, H, .ref C, none, rfl, I, hm.keeps, hm.new, ht, ⟨rfl, rfl⟩, rfl, rfl, hn, rfl, I.bare, R, h⟩
/-- C(): an error without an __init__ of its own -/
theorem pe_err0 {C : Addr} {bmB : List Value} {B newId initId : String} {x : Str} {p pos : Pos} (F : ExcBaseFacts B newId initId bmB) (q : PySem.W.excIn X.K C bmB newId = true) (gC : X.mg x = some (.ref C)) (kC : PySem.W.keepIn X.K (.ref C) = true) (hg : Gl X x)
    (hdb : (x == ("__debug__" : Str)) = false := by decide) :
    PE X (.Call (.Name x p) [] [] pos) (fun _ H Q => ∀ a, H a = none → Q (.ref a) (upd H a (errO a C none))) := by
  refine ⟨fun pins s σ H Q I h => ?_⟩
  refine wpAny_Call_Name_kw (ld_glob I hg gC ?_ hdb)
  refine PySem.W.callWith_K0 I.kIn kC ?_
  show wpAny _ _ (call (.ref C) []) _ _ _
  obtain ⟨bm, N, nm, qn, bs, hdct, sn, sub, ab, col, dd, k0, k1, k2, k3, k5, mN, hC, hN, hni, T⟩ := exc_obj I.kIn q
  refine wpAny_call_exc_subT F T hC hN hni (fun h' a hm => ?_) (by show 0 ≤ sizeLine; omega)
  have hn : H a = none := I.hok.gone hm.new
  obtain ⟨t, ht, _, _⟩ := hm.there
  exact ⟨.ref a, upd H a (errO a C none), I.laidN hm.keeps hm.new hn (errO_ok ht rfl rfl rfl), rfl, h a hn⟩
end
end L2
set_option Elab.async false
set_option linter.all false
set_option maxRecDepth 100000
set_option maxHeartbeats 4000000
/-! what the head tells of the errors: one Bool an error, and the text of its __init__ -/
namespace PySem
namespace GW
open PySem PySem.W PySem.Spec PySem.Calls PyProof.Rows PySem.HandSPX L2 He
structure ErrX (P : Program) (K : PySem.W.Frag) (mg : Str → Option Value) (W : Addr) (x : Str) (C fI : Addr) (params : Arguments) (scope : Scope) (l : List Fl) : Prop where
  c : ErrC K C
  i : ErrI P K mg C fI params scope l
  g : mg x = some (.ref C)
  k : PySem.W.keepIn K (.ref C) = true
  r : ErrG K C
  z : ExcC K C
  t : PySem.W.typeIn K (.ref C) = some (.type "type")
  kw : PySem.W.kitOne K (.ref C) (.ref W) = some true
  kv : PySem.W.kitOne K (.ref C) (.type "ValueError") = some true
  xw : PySem.W.exmOne K (.ref C) (.ref W) = some true
structure ErrZ (K : PySem.W.Frag) (mg : Str → Option Value) (W : Addr) (x : Str) (C : Addr) : Prop where
  q : PySem.W.excIn K C [.type "ValueError", .type "Exception", .type "BaseException", .type "object"] "ValueError.__new__" = true
  g : mg x = some (.ref C)
  k : PySem.W.keepIn K (.ref C) = true
  z : ExcC K C
  t : PySem.W.typeIn K (.ref C) = some (.type "type")
  kw : PySem.W.kitOne K (.ref C) (.ref W) = some true
  kv : PySem.W.kitOne K (.ref C) (.type "ValueError") = some true
  xw : PySem.W.exmOne K (.ref C) (.ref W) = some true
def veB : List Value := [.type "ValueError", .type "Exception", .type "BaseException", .type "object"]
def eqB (a : Option Bool) (b : Bool) : Bool := decide (a = some b)
/-- of a class: what isinstance, except and a reader ask -/
def clsB (K : Frag) (C W : Addr) : Bool :=
  keepIn K (.ref C) && (decide (typeIn K (.ref C) = some (.type "type")) && (eqO (findIn K (.ref C) "__getattribute__") (some (some (.builtin "BaseException.__getattribute__"))) && (eqO (findIn K (.ref C) "__getattr__") (some none) &&
    (eqB (subIn K (.ref C) (.type "BaseException")) true && (hasDictIn K C && (eqO (findIn K (.ref C) "__class__") (some (some (.builtin "object.__class__"))) && (eqO (specialIn K (.builtin "object.__class__") "__get__") (some (some (.builtin "getset_descriptor.__get__"))) &&
      (eqB (takesIn K (.builtin "object.__class__")) true && (eqB (mroIn K C (.type "object")) true && (eqB (kitOne K (.ref C) (.ref W)) true && (eqB (kitOne K (.ref C) (.type "ValueError")) true && eqB (exmOne K (.ref C) (.ref W)) true)))))))))))
theorem clsB_ok {K : Frag} {C W : Addr} (h : clsB K C W = true) : keepIn K (.ref C) = true ∧ typeIn K (.ref C) = some (.type "type") ∧ ErrG K C ∧ ExcC K C ∧ kitOne K (.ref C) (.ref W) = some true ∧ kitOne K (.ref C) (.type "ValueError") = some true ∧ exmOne K (.ref C) (.ref W) = some true := by
  unfold clsB eqB at h
  simp only [Bool.and_eq_true, decide_eq_true_eq] at h
  obtain ⟨h1, h2, h3, h4, h5, h6, h7, h8, h9, h10, h11, h12, h13⟩ := h
  exact ⟨h1, h2, ⟨eqO_ok h3, eqO_ok h4, h5, h6⟩, ⟨eqO_ok h3, eqO_ok h4, h5, h6, eqO_ok h7, eqO_ok h8, h9, h10⟩, h11, h12, h13⟩
def zB (K : Frag) (x : Str) : Bool := eqO (nsIn K mainGlobals x) (some (some (.ref (ga K x)))) && (excIn K (ga K x) veB "ValueError.__new__" && clsB K (ga K x) (ga K "WebError"))
theorem zB_ok {K : Frag} {h : Heap} {mg : Str → Option Value} {x : Str} (X : K.In h) (G : h.Ns mainGlobals mg) (c : zB K x = true) : ErrZ K mg (ga K "WebError") x (ga K x) := by
  unfold zB at c
  simp only [Bool.and_eq_true] at c
  obtain ⟨c1, c2, c3⟩ := c
  obtain ⟨d1, d2, d3, d4, d5, d6, d7⟩ := clsB_ok c3
  exact ⟨c2, mg_of X G (eqO_ok c1), d1, d4, d2, d5, d6, d7⟩
def fileB (file : Str) (vs : Array Value) : Bool := match vs[2]? with
  | some (Value.str f _) => f == file
  | _ => false
theorem fileB_ok {file : Str} {vs : Array Value} (h : fileB file vs = true) : ∃ f tk, vs[2]? = some (Value.str f tk) ∧ (file == f) = true := by
  unfold fileB at h
  split at h
  · rename_i f tk e
    exact ⟨f, tk, e, by have q : f = file := beq_iff_eq.mp h; rw [q]; exact beq_self_eq_true _⟩
  · cases h
def cellB (file : Str) (K : Frag) (C fI : Addr) : Bool := match K.lookup fI with
  | some ⟨_, _, .func fd, _⟩ => (match fd.closure, fd.code with
    | [(_, cc)], .ref cda => (match K.lookup cc, K.lookup cda with
      | some ⟨_, _, .cell (some (.ref D)), _⟩, some ⟨_, _, .fields vs, _⟩ => decide (D = C) && (fileB file vs && codeIn K (.ref cda) fd.qualname)
      | _, _ => false)
    | _, _ => false)
  | _ => false
abbrev IniV : Type := Option (Str × Arguments × FuncBody × Scope × Addr × List Str × Value × Value × Addr)
def iniObs (K : Frag) (x : Str) : IniV := match K.lookup (ma K (ga K x) "__init__") with
  | some ⟨_, _, .func fd, _⟩ => some (fd.name, fd.params, fd.body, fd.scope, fd.globals, fd.closure.map (fun p => p.1), fd.defaults, fd.kwdefaults, fd.builtins)
  | _ => none
def iniVal (st : Stmt) : IniV := some ("__init__", defArgs st, .stmts (defBody st), defScope st, mainGlobals, ["__class__"], .none, .none, builtinsNs)
def xB (file : Str) (K : Frag) (x : Str) (fs : List Str) : Bool :=
  eqO (nsIn K mainGlobals x) (some (some (.ref (ga K x)))) && (excInitIn K (ga K x) veB "ValueError.__new__" && (clsB K (ga K x) (ga K "WebError") && (eqO (findIn K (.ref (ga K x)) "__setattr__") (some (some (.builtin "object.__setattr__"))) &&
    (decide (ks_superIn K (ga K x) (ga K x) "__init__" = some (some (.builtin "ValueError.__init__"))) && (eqB (subIn K (.ref (ga K x)) (.type "ValueError")) true && (eqB (mroIn K (ga K x) (.ref (ga K x))) true &&
      (eqO (findIn K (.ref (ga K x)) "__init__") (some (some (.ref (ma K (ga K x) "__init__")))) && (decide (typeIn K (.ref (ma K (ga K x) "__init__")) = some (.type "function")) && ((fs.all fun f => eqO (findIn K (.ref (ga K x)) f) (some none)) && cellB file K (ga K x) (ma K (ga K x) "__init__"))))))))))
theorem refsVE_of : ∀ l : List Value, excTail veB l = true → refsVE l = true := by
  intro l
  induction l with
  | nil => intro h; exact absurd h (by decide)
  | cons v r ih =>
    intro h
    rcases excTail_cases (v :: r) h with ⟨c, r', e, h'⟩ | e
    · obtain ⟨rfl, rfl⟩ := List.cons.inj e
      exact ih h'
    · rw [e]
      decide
theorem cls_of {K : Frag} {C : Addr} (q : excInitIn K C veB "ValueError.__new__" = true) (hd : hasDictIn K C = true) :
    ∃ nm q N bs bm sn sub ab col dd k0 k1 k2 k3 k5, K.lookup C = some (excClassObj nm q C N bs bm true sn sub ab col dd k0 k1 k2 k3 k5 "ValueError.__new__") ∧ refsVE bm = true := by
  unfold excInitIn at q
  split at q
  · rename_i dd cd sl ho
    split at q
    · rename_i C' bm k0 k1 k2 k3 n k5 hm hs
      simp only [Bool.and_eq_true, beq_iff_eq, Bool.not_eq_true'] at q
      obtain ⟨⟨⟨rfl, rfl⟩, hdel⟩, ht⟩ := q
      have hdc : cd.hasDict = true := by
        obtain ⟨cd', hc, hh⟩ := any_some hd
        unfold clsIn at hc
        rw [ho] at hc
        cases hc
        exact hh
      obtain ⟨nm, bs, mro, ns, qn, hdd, sn, sub, ab, col, del⟩ := cd
      dsimp only at hm hdel hdc
      subst hm hdel hdc
      have hsl : sl = #[k0, k1, k2, k3, some (.builtin "ValueError.__new__"), k5] := by
        obtain ⟨l⟩ := sl
        simp only at hs
        rw [hs]
      subst hsl
      exact ⟨nm, qn, ns, bs, bm, sn, sub, ab, col, dd, k0, k1, k2, k3, k5, ho, refsVE_of bm ht⟩
    · cases q
  · cases q
/-- the text of an __init__ that only keeps its values -/
structure IniOk (st : Stmt) (l : List Fl) : Prop where
  body : ∃ r0 r1 r2 r3 r4 : Pos, defBody st = eBody r0 r1 r2 r3 r4 l ∧ (r2.endLine == r3.line) = true
  nd : ((Str.ofString "self") :: l.map (fun p => p.f)).Nodup
  ne : l ≠ []
  few : l.length ≤ 10
  hd : ∃ p, (defArgs st).posonlyargs ++ (defArgs st).args = { arg := "self", annotation := none, pos := p } :: ((defArgs st).posonlyargs ++ (defArgs st).args).tail
  sk : (defScope st).kind = .function
  sco : (defScope st).isCoroutine = false
  sge : (defScope st).isGenerator = false
  ss : (defScope st).names.lookup (Str.ofString "super") = some .globalImplicit
  sc : (defScope st).names.lookup (Str.ofString "__class__") = some .free
  sl : ∀ y ∈ ((Str.ofString "self") :: l.map (fun p => p.f)), (defScope st).names.lookup y = some .local
  scell : ∀ x ∈ (defScope st).names, x.2 ≠ .cell
  nodeb : ∀ p ∈ l, (p.f == (Str.ofString "__debug__")) = false
theorem xB_ok {P : Program} {K : Frag} {h : Heap} {mg : Str → Option Value} {x : Str} {st : Stmt} {l : List Fl} (X : K.In h) (G : h.Ns mainGlobals mg) (c : xB P.main.file K x (l.map (fun p => p.f)) = true) (o : iniObs K x = iniVal st) (T : IniOk st l)
    (sup : mg "super" = none) (opq : nsIn K cStatics "thirdparty.any" = some none) (ptop : (P.main.scope.names.lookup (Str.ofString "super")).isSome = false) :
    ErrX P K mg (ga K "WebError") x (ga K x) (ma K (ga K x) "__init__") (defArgs st) (defScope st) l := by
  unfold xB eqB at c
  simp only [Bool.and_eq_true, decide_eq_true_eq] at c
  obtain ⟨c1, c2, c3, c4, c5, c6, c7, c8, c9, c10, c11⟩ := c
  obtain ⟨d1, d2, d3, d4, d5, d6, d7⟩ := clsB_ok c3
  refine ⟨⟨cls_of c2 d3.hd, eqO_ok c4, c5, opq, c6, c7⟩, ⟨eqO_ok c8, c9, fun p hp => ?_, T.nd, T.ne, T.few, T.hd, T.sk, T.sco, T.sge, T.ss, T.sc, T.sl, T.scell, T.nodeb, sup, ptop, ?_⟩, mg_of X G (eqO_ok c1), d1, d3, d4, d2, d5, d6, d7⟩
  · exact eqO_ok (List.all_eq_true.mp c10 _ (List.mem_map_of_mem hp))
  · obtain ⟨r0, r1, r2, r3, r4, hb, hln⟩ := T.body
    unfold iniObs at o
    unfold cellB at c11
    cases e : K.lookup (ma K (ga K x) "__init__") with
    | none => rw [e] at o; cases o
    | some ob =>
      rw [e] at o c11
      obtain ⟨oc, od, dt, sl⟩ := ob
      cases dt with
      | func fd =>
        obtain ⟨n1, n2, n3, n4, n5, n6, n7, n8, n9, n10, n11, n12, n13, n14, n15⟩ := fd
        unfold iniVal at o
        simp only [Option.some.injEq, Prod.mk.injEq] at o
        obtain ⟨rfl, rfl, rfl, rfl, rfl, o6, rfl, rfl, rfl⟩ := o
        dsimp only at c11
        split at c11
        · rename_i nm cc cda
          split at c11
          · rename_i _ _ D _ _ _ _ vs _ ecc ecd
            simp only [Bool.and_eq_true, decide_eq_true_eq] at c11
            obtain ⟨rfl, cf, cq⟩ := c11
            obtain ⟨f, tk, ef, eq⟩ := fileB_ok cf
            have o7 : nm = Str.ofString "__class__" := by simpa using o6
            subst o7
            refine ⟨oc, od, n2, r0, r1, r2, r3, r4, n10, n11, n12, cda, n14, cc, sl, ?_, cq, hln, ⟨_, _, _, ecc⟩, _, _, vs, _, f, tk, ecd, ef, eq⟩
            first
              | (rw [← hb]; done)
              | (rw [← hb]; exact e)
          · cases c11
        · cases c11
      | _ => cases o
/-! ### the part of the heap that is looked at, the Hook -/
def refs2 (o : Obj) : List Addr := He.refsD o ++ (match o.data with
  | .func fd => fd.closure.map (fun p => p.2)
  | _ => [])
def grow2 (g : Addr → Option Obj) (as : List Addr) : List Addr := (as ++ as.flatMap fun a => match g a with
  | some o => refs2 o
  | none => []).eraseDups
def as2 (g : Addr → Option Obj) : Nat → List Addr
  | 0 => [mainGlobals, cStatics]
  | n + 1 => grow2 g (as2 g n)
abbrev Al2 : Type := Bool × List He.FnV × List IniV
def obs2 (fb : Frag → Bool) (fn : List He.FnD) (xs : List Str) (K : Frag) : Al2 := (fb K && fn.all fun d => (He.Fa.code d.at_ d.qual).ok K, fn.map fun d => He.fnObs K d.at_, xs.map fun x => iniObs K x)
def val2 (fn : List He.FnD) (ys : List IniV) : Al2 := (true, fn.map He.FnD.val, ys)
def Says2 (fb : Frag → Bool) (fn : List He.FnD) (xs : List Str) (ys : List IniV) (K : Frag) : Prop := obs2 fb fn xs K = val2 fn ys
def obs2G (n : Nat) (fb : Frag → Bool) (fn : List He.FnD) (xs : List Str) (g : Addr → Option Obj) : Al2 := obs2 fb fn xs (He.frG g (as2 g n))
def hook2 (n : Nat) (fb : Frag → Bool) (fn : List He.FnD) (xs : List Str) (ys : List IniV) : PySem.W.Hook where
  α := Al2
  obs := fun s => obs2G n fb fn xs s.heap.get?
  val := fun _ => val2 fn ys
  says := fun _ h => ∃ K : PySem.W.Frag, K.In h ∧ Says2 fb fn xs ys K
  of := fun _ _ e => ⟨_, He.frG_in, e⟩
  keeps := fun _ _ _ ⟨K, hK, c⟩ k => ⟨K, PySem.W.Frag.In.keeps hK k, c⟩
theorem obs2G_eq {n : Nat} {fb : Frag → Bool} {fn : List He.FnD} {xs : List Str} {ys : List IniV} {g : Addr → Option Obj} {s : Shared} (h : ∀ a, g a = s.heap.get? a) : obs2G n fb fn xs g = (hook2 n fb fn xs ys).obs s := by
  have e : g = s.heap.get? := funext h
  show obs2G n fb fn xs g = obs2G n fb fn xs s.heap.get?
  rw [e]
theorem Says2.all {fb : Frag → Bool} {fn : List He.FnD} {xs : List Str} {ys : List IniV} {K : Frag} (c : Says2 fb fn xs ys K) : fb K = true := by
  have e := congrArg Prod.fst c
  exact (Bool.and_eq_true_iff.mp e).1
theorem map_at {α β : Type} {f : α → β} {xs : List α} {ys : List β} (e : xs.map f = ys) (i : Nat) {x : α} {y : β} (hx : xs[i]? = some x) (hy : ys[i]? = some y) : f x = y := by
  rw [← e, List.getElem?_map, hx] at hy
  exact Option.some.inj hy
theorem Says2.ini {fb : Frag → Bool} {fn : List He.FnD} {xs : List Str} {ys : List IniV} {K : Frag} (c : Says2 fb fn xs ys K) (i : Nat) {x : Str} {y : IniV} (hx : xs[i]? = some x) (hy : ys[i]? = some y) : iniObs K x = y :=
  map_at (f := fun x => iniObs K x) (congrArg (fun p => p.2.2) c) i hx hy
theorem Says2.def_ {fb : Frag → Bool} {fn : List He.FnD} {xs : List Str} {ys : List IniV} {K : Frag} (c : Says2 fb fn xs ys K) (i : Nat) {d : He.FnD} (h : fn[i]? = some d) :
    ∃ oc od osl kV doc pm an cdv ct, K.lookup (He.fAd K d.at_) = some ⟨oc, od, .func (PySem.W.fnOf d.name d.qual d.params d.body d.scope .none kV doc pm an cdv ct), osl⟩ ∧ PySem.W.codeIn K cdv d.qual = true := by
  have e1 := congrArg Prod.fst c
  have e2 := (Bool.and_eq_true_iff.mp e1).2
  refine He.fn_ok ?_ (List.all_eq_true.mp e2 d (List.mem_of_getElem? h))
  exact map_at (f := fun d => He.fnObs K d.at_) (congrArg (fun p => p.2.1) c) i h (y := d.val) (by show (fn.map He.FnD.val)[i]? = some d.val; rw [List.getElem?_map, h]; rfl)
end GW
end PySem
set_option Elab.async false
set_option linter.all false
set_option maxRecDepth 100000
set_option maxHeartbeats 4000000
/-! the Hook with defs that have defaults, and with the empty tables of defs that make lambdas -/
namespace PySem
namespace GW
open PySem PySem.W PySem.Spec PySem.Calls PyProof.Rows PySem.HandSPX L2 He
abbrev Al3 : Type := Bool × List He.FnV × List IniV × List He.FnW
def obs3 (fb : Frag → Bool) (fn : List He.FnD) (xs : List Str) (fw : List He.DefD) (K : Frag) : Al3 := ((fb K && fn.all fun d => (He.Fa.code d.at_ d.qual).ok K) && fw.all fun d => d.ok K, fn.map fun d => He.fnObs K d.at_, xs.map fun x => iniObs K x, fw.map fun d => He.fnW K d.at_)
def val3 (fn : List He.FnD) (ys : List IniV) (fw : List He.DefD) : Al3 := (true, fn.map He.FnD.val, ys, fw.map He.DefD.val)
structure Says3 (fb : Frag → Bool) (fn : List He.FnD) (xs : List Str) (ys : List IniV) (fw : List He.DefD) (tf : List He.Defn) (h : Heap) (K : Frag) : Prop where
  e : obs3 fb fn xs fw K = val3 fn ys fw
  hd : ∀ p ∈ tf, PySem.W.codeHdIn K (He.cT K p).1 (He.cT K p).2 = true
  out : ∀ p ∈ tf, K.lookup (He.cT K p).2 = none
  empty : ∀ p ∈ tf, h.get? (He.cT K p).2 = some { cls := .none, data := .fields #[] }
def obs3K (fb : Frag → Bool) (fn : List He.FnD) (xs : List Str) (fw : List He.DefD) (tf : List He.Defn) (g : Addr → Option Obj) (K : Frag) : Al3 × Bool := (obs3 fb fn xs fw K, He.tabsB g tf K)
def obs3G (n : Nat) (fb : Frag → Bool) (fn : List He.FnD) (xs : List Str) (fw : List He.DefD) (tf : List He.Defn) (g : Addr → Option Obj) : Al3 × Bool := obs3K fb fn xs fw tf g (He.frT g (as2 g n))
theorem says3_of {n : Nat} {fb : Frag → Bool} {fn : List He.FnD} {xs : List Str} {ys : List IniV} {fw : List He.DefD} {tf : List He.Defn} {h : Heap} (e : obs3G n fb fn xs fw tf h.get? = (val3 fn ys fw, true)) : Says3 fb fn xs ys fw tf h (He.frT h.get? (as2 h.get? n)) := by
  have e1 : obs3 fb fn xs fw (He.frT h.get? (as2 h.get? n)) = val3 fn ys fw := congrArg (fun z : Al3 × Bool => z.1) e
  have e2 : He.tabsB h.get? tf (He.frT h.get? (as2 h.get? n)) = true := congrArg (fun z : Al3 × Bool => z.2) e
  have key : ∀ p ∈ tf, PySem.W.codeHdIn (He.frT h.get? (as2 h.get? n)) (He.cT (He.frT h.get? (as2 h.get? n)) p).1 (He.cT (He.frT h.get? (as2 h.get? n)) p).2 = true ∧ ∃ o, h.get? (He.cT (He.frT h.get? (as2 h.get? n)) p).2 = some o ∧ He.emptyTab o = true := fun p hp => by
    obtain ⟨h3, h4⟩ := He.ba (List.all_eq_true.mp e2 p hp)
    refine ⟨h3, ?_⟩
    cases q : h.get? (He.cT (He.frT h.get? (as2 h.get? n)) p).2 with
    | none =>
      rw [q] at h4
      cases h4
    | some o =>
      rw [q] at h4
      exact ⟨o, rfl, h4⟩
  exact ⟨e1, fun p hp => (key p hp).1, fun p hp => by
    obtain ⟨_, o, q, z⟩ := key p hp
    exact He.frT_none q z, fun p hp => by
    obtain ⟨_, o, q, z⟩ := key p hp
    rw [q, He.emptyTab_eq z]⟩
def hook3 (n : Nat) (fb : Frag → Bool) (fn : List He.FnD) (xs : List Str) (ys : List IniV) (fw : List He.DefD) (tf : List He.Defn) : PySem.W.Hook where
  α := Al3 × Bool
  obs := fun s => obs3G n fb fn xs fw tf s.heap.get?
  val := fun _ => (val3 fn ys fw, true)
  says := fun _ h => ∃ K : PySem.W.Frag, K.In h ∧ Says3 fb fn xs ys fw tf h K
  of := fun _ _ e => ⟨_, He.frT_in, says3_of e⟩
  keeps := fun _ _ _ ⟨K, hK, c⟩ k => ⟨K, PySem.W.Frag.In.keeps hK k, ⟨c.e, c.hd, c.out, fun p hp => k _ _ (c.empty p hp)⟩⟩
theorem obs3G_eq {n : Nat} {fb : Frag → Bool} {fn : List He.FnD} {xs : List Str} {ys : List IniV} {fw : List He.DefD} {tf : List He.Defn} {g : Addr → Option Obj} {s : Shared} (h : ∀ a, g a = s.heap.get? a) : obs3G n fb fn xs fw tf g = (hook3 n fb fn xs ys fw tf).obs s := by
  have e : g = s.heap.get? := funext h
  show obs3G n fb fn xs fw tf g = obs3G n fb fn xs fw tf s.heap.get?
  rw [e]
section
variable {fb : Frag → Bool} {fn : List He.FnD} {xs : List Str} {ys : List IniV} {fw : List He.DefD} {tf : List He.Defn} {h : Heap} {K : Frag}
theorem Says3.all (c : Says3 fb fn xs ys fw tf h K) : fb K = true := by
  have e := congrArg Prod.fst c.e
  exact (Bool.and_eq_true_iff.mp (Bool.and_eq_true_iff.mp e).1).1
theorem Says3.ini (c : Says3 fb fn xs ys fw tf h K) (i : Nat) {x : Str} {y : IniV} (hx : xs[i]? = some x) (hy : ys[i]? = some y) : iniObs K x = y :=
  map_at (f := fun x => iniObs K x) (congrArg (fun p => p.2.2.1) c.e) i hx hy
theorem Says3.def_ (c : Says3 fb fn xs ys fw tf h K) (i : Nat) {d : He.FnD} (h : fn[i]? = some d) :
    ∃ oc od osl kV doc pm an cdv ct, K.lookup (He.fAd K d.at_) = some ⟨oc, od, .func (PySem.W.fnOf d.name d.qual d.params d.body d.scope .none kV doc pm an cdv ct), osl⟩ ∧ PySem.W.codeIn K cdv d.qual = true := by
  have e1 := congrArg Prod.fst c.e
  have e2 := (Bool.and_eq_true_iff.mp (Bool.and_eq_true_iff.mp e1).1).2
  refine He.fn_ok ?_ (List.all_eq_true.mp e2 d (List.mem_of_getElem? h))
  exact map_at (f := fun d => He.fnObs K d.at_) (congrArg (fun p => p.2.1) c.e) i h (y := d.val) (by show (fn.map He.FnD.val)[i]? = some d.val; rw [List.getElem?_map, h]; rfl)
theorem Says3.defD (c : Says3 fb fn xs ys fw tf h K) (i : Nat) {d : He.DefD} (h : fw[i]? = some d) : ∃ fd, FunD K d.name d.qual d.params d.body d.scope (d.dvs K) (d.kws K) (He.fAd K d.at_) fd := by
  have e1 := congrArg Prod.fst c.e
  have e2 := (Bool.and_eq_true_iff.mp e1).2
  refine He.DefD.funD ?_ (List.all_eq_true.mp e2 d (List.mem_of_getElem? h))
  exact map_at (f := fun d => He.fnW K d.at_) (congrArg (fun p => p.2.2.2) c.e) i h (y := d.val) (by show (fw.map He.DefD.val)[i]? = some d.val; rw [List.getElem?_map, h]; rfl)
end
/-- the function object that stands at f -/
def fdAt (K : PySem.W.Frag) (f : Addr) : FuncData := match K.lookup f with
  | some ⟨_, _, .func fd, _⟩ => fd
  | _ => PySem.W.fnOf "" "" ⟨[], [], none, [], [], none, []⟩ [] ⟨.function, [], false, false, []⟩ .none .none .none .none none .none .none
theorem all_at {α : Type} {p : α → Bool} {xs : List α} (h : xs.all p = true) (i : Nat) {x : α} (hx : xs[i]? = some x) : p x = true := List.all_eq_true.mp h x (List.mem_of_getElem? hx)
end GW
end PySem
set_option linter.all false
/-! Rows, the mathematics: words written again and again, cut, compared -/
namespace RM
/-- the first n numbers of a word that is written without end -/
def rep (w : List Int) (n : Nat) : List Int := (List.range n).map fun i => w.getD (i % w.length) 0
abbrev Rn := List Int × Nat
def flat (rs : List Rn) : List Int := rs.flatMap fun r => rep r.1 r.2
/-- (word, times) as runs (word, length) -/
def runs (ss : List Rn) : List Rn := (ss.filter fun s => decide (0 < s.2)).map fun s => (s.1, s.1.length * s.2)
def flatS (ss : List Rn) : List Int := flat (runs ss)
def Good (rs : List Rn) : Prop := ∀ r ∈ rs, r.1 ≠ []
def Pos (rs : List Rn) : Prop := ∀ r ∈ rs, r.1 ≠ [] ∧ 0 < r.2
def ext (rs : List Rn) : Nat := (rs.map fun r => r.2).sum
theorem rep_length (w : List Int) (n : Nat) : (rep w n).length = n := by simp [rep]
theorem rep_at (w : List Int) {n i : Nat} (h : i < n) : (rep w n)[i]? = some (w.getD (i % w.length) 0) := by
  simp [rep, List.getElem?_map, List.getElem?_range h]
theorem flat_nil : flat [] = [] := rfl
theorem flat_cons (r : Rn) (rs : List Rn) : flat (r :: rs) = rep r.1 r.2 ++ flat rs := by simp [flat]
theorem flat_append (a b : List Rn) : flat (a ++ b) = flat a ++ flat b := by simp [flat, List.flatMap_append]
theorem flat_length : ∀ rs : List Rn, (flat rs).length = ext rs
  | [] => rfl
  | r :: rs => by
    rw [flat_cons, List.length_append, rep_length, flat_length rs]
    simp [ext]
theorem ext_cons (r : Rn) (rs : List Rn) : ext (r :: rs) = r.2 + ext rs := by simp [ext]
theorem ext_append (a b : List Rn) : ext (a ++ b) = ext a + ext b := by simp [ext, List.sum_append]
theorem Pos.good {rs : List Rn} (h : Pos rs) : Good rs := fun r hr => (h r hr).1
theorem rep_zero (w : List Int) : rep w 0 = [] := rfl
theorem rep_take (w : List Int) (n k : Nat) : (rep w n).take k = rep w (min k n) := by
  simp [rep, ← List.map_take, List.take_range]
theorem rot_at (w : List Int) (hw : w ≠ []) (t i : Nat) (ht : t < w.length) : (w.drop t ++ w.take t).getD (i % w.length) 0 = w.getD ((t + i) % w.length) 0 := by
  have hl : 0 < w.length := List.length_pos_iff.mpr hw
  have hi : i % w.length < w.length := Nat.mod_lt _ hl
  have e : (t + i) % w.length = (t + i % w.length) % w.length := by rw [Nat.add_mod t i, Nat.mod_eq_of_lt ht]
  rw [e, List.getD_eq_getElem?_getD, List.getD_eq_getElem?_getD]
  congr 1
  by_cases c : i % w.length < w.length - t
  · have e3 : (t + i % w.length) % w.length = t + i % w.length := Nat.mod_eq_of_lt (by omega)
    rw [List.getElem?_append_left (by simp; omega), List.getElem?_drop, e3]
  · rw [List.getElem?_append_right (by simp; omega), List.getElem?_take]
    have e2 : (t + i % w.length) % w.length = t + i % w.length - w.length := by
      rw [Nat.mod_eq_sub_mod (by omega), Nat.mod_eq_of_lt (by omega)]
    rw [e2]
    simp
    rw [if_pos (by omega)]
    congr 1
    omega
theorem rot_length (w : List Int) (t : Nat) (ht : t ≤ w.length) : (w.drop t ++ w.take t).length = w.length := by simp; omega
/-- a run whose first k numbers are taken away -/
theorem rep_drop (w : List Int) (hw : w ≠ []) (n k : Nat) : (rep w n).drop k = rep (w.drop (k % w.length) ++ w.take (k % w.length)) (n - k) := by
  have hl : 0 < w.length := List.length_pos_iff.mpr hw
  have ht : k % w.length < w.length := Nat.mod_lt _ hl
  refine List.ext_getElem? fun i => ?_
  rw [List.getElem?_drop]
  by_cases c : i < n - k
  · rw [rep_at _ c, rep_at _ (show k + i < n by omega), rot_length w _ (Nat.le_of_lt ht), rot_at w hw _ _ ht]
    congr 2
    rw [Nat.add_mod (k % w.length), Nat.mod_mod, ← Nat.add_mod]
  · rw [List.getElem?_eq_none (by rw [rep_length]; omega), List.getElem?_eq_none (by rw [rep_length]; omega)]
def cutF : List Rn → Nat → List Rn
  | [], _ => []
  | (w, n) :: rs, left => (if min left n < n then [(w.drop (min left n % w.length) ++ w.take (min left n % w.length), n - min left n)] else []) ++ cutF rs (left - min left n)
theorem cutF_flat : ∀ (rs : List Rn) (k : Nat), Good rs → flat (cutF rs k) = (flat rs).drop k
  | [], k, _ => by simp [cutF, flat]
  | (w, n) :: rs, k, g => by
    have hw : w ≠ [] := g (w, n) List.mem_cons_self
    have g' : Good rs := fun r hr => g r (List.mem_cons_of_mem _ hr)
    rw [cutF, flat_append, cutF_flat rs _ g', flat_cons, List.drop_append, rep_length]
    by_cases c : k < n
    · have e : min k n = k := by omega
      rw [e, if_pos c, flat_cons, flat_nil, List.append_nil, rep_drop w hw, Nat.sub_self]
      have e0 : k - n = 0 := by omega
      rw [e0]
    · have e : min k n = n := by omega
      rw [e, if_neg (by omega), flat_nil, List.nil_append]
      have e1 : (rep w n).drop k = [] := List.drop_eq_nil_of_le (by rw [rep_length]; omega)
      dsimp only at e1 ⊢
      rw [e1, List.nil_append]
theorem cutF_pos : ∀ (rs : List Rn) (k : Nat), Pos rs → Pos (cutF rs k)
  | [], k, h => by simp [cutF, Pos]
  | (w, n) :: rs, k, h => by
    have h0 := h (w, n) List.mem_cons_self
    have ih := cutF_pos rs (k - min k n) fun r hr => h r (List.mem_cons_of_mem _ hr)
    intro r hr
    rw [cutF] at hr
    rcases List.mem_append.mp hr with hr | hr
    · split at hr
      · rename_i c
        simp only [List.mem_singleton] at hr
        subst hr
        refine ⟨fun e => ?_, by show 0 < n - min k n; omega⟩
        have := congrArg List.length e
        have hl : 0 < w.length := List.length_pos_iff.mpr h0.1
        rw [rot_length w _ (Nat.le_of_lt (Nat.mod_lt _ hl))] at this
        simp at this
        exact h0.1 this
      · cases hr
    · exact ih r hr
/-- the first numbers of some runs -/
def begF : List Rn → Nat → List Rn
  | [], _ => []
  | (w, n) :: rs, left => (w, min n left) :: begF rs (left - min n left)
theorem begF_flat : ∀ (rs : List Rn) (k : Nat), flat (begF rs k) = (flat rs).take k
  | [], k => by simp [begF, flat]
  | (w, n) :: rs, k => by
    rw [begF, flat_cons, begF_flat rs, flat_cons, List.take_append, rep_take, rep_length, Nat.min_comm k n]
    congr 2
    dsimp only
    omega
theorem begF_good : ∀ (rs : List Rn) (k : Nat), Good rs → Good (begF rs k)
  | [], k, g => by simp [begF, Good]
  | (w, n) :: rs, k, g => by
    intro r hr
    rw [begF] at hr
    rcases List.mem_cons.mp hr with rfl | hr
    · exact g (w, n) List.mem_cons_self
    · exact begF_good rs _ (fun r hr => g r (List.mem_cons_of_mem _ hr)) r hr
/-- runs as stretches -/
def rowF (rs : List Rn) : List Rn := rs.flatMap fun r => (if r.1.length ≤ r.2 then [(r.1, r.2 / r.1.length)] else []) ++ (if 0 < r.2 % r.1.length then [(r.1.take (r.2 % r.1.length), 1)] else [])
theorem runs_append (a b : List Rn) : runs (a ++ b) = runs a ++ runs b := by simp [runs]
theorem flatS_append (a b : List Rn) : flatS (a ++ b) = flatS a ++ flatS b := by simp [flatS, runs_append, flat_append]
theorem rep_add (w : List Int) (m k : Nat) : rep w (w.length * m + k) = rep w (w.length * m) ++ rep w k := by
  refine List.ext_getElem? fun i => ?_
  by_cases c : i < w.length * m
  · rw [List.getElem?_append_left (by rw [rep_length]; exact c), rep_at _ c, rep_at _ (by omega)]
  · rw [List.getElem?_append_right (by rw [rep_length]; omega), rep_length]
    by_cases d : i < w.length * m + k
    · rw [rep_at _ d, rep_at _ (by omega)]
      congr 2
      have e : i = w.length * m + (i - w.length * m) := by omega
      rw [e, Nat.mul_add_mod]
      congr 1
      omega
    · rw [List.getElem?_eq_none (by rw [rep_length]; omega), List.getElem?_eq_none (by rw [rep_length]; omega)]
theorem rep_short (w : List Int) (k : Nat) (h : k ≤ w.length) : rep w k = w.take k := by
  refine List.ext_getElem? fun i => ?_
  by_cases c : i < k
  · rw [rep_at _ c, List.getElem?_take, if_pos c, Nat.mod_eq_of_lt (by omega), List.getD_eq_getElem?_getD, List.getElem?_eq_getElem (by omega)]
    rfl
  · rw [List.getElem?_eq_none (by rw [rep_length]; omega), List.getElem?_take, if_neg c]
theorem flatS_one (w : List Int) (t : Nat) : flatS [(w, t)] = rep w (w.length * t) := by
  unfold flatS runs
  by_cases c : 0 < t
  · simp [c, flat]
  · have e : t = 0 := by omega
    subst e
    simp [flat, rep]
theorem rowF_cons (r : Rn) (rs : List Rn) : rowF (r :: rs) = (if r.1.length ≤ r.2 then [(r.1, r.2 / r.1.length)] else []) ++ (if 0 < r.2 % r.1.length then [(r.1.take (r.2 % r.1.length), 1)] else []) ++ rowF rs := by simp [rowF]
theorem rowF_flat : ∀ rs : List Rn, Good rs → flatS (rowF rs) = flat rs
  | [], _ => rfl
  | (w, n) :: rs, g => by
    have hw : w ≠ [] := g (w, n) List.mem_cons_self
    have hl : 0 < w.length := List.length_pos_iff.mpr hw
    have ih := rowF_flat rs fun r hr => g r (List.mem_cons_of_mem _ hr)
    rw [rowF_cons, flatS_append, flatS_append, ih, flat_cons]
    congr 1
    dsimp only
    have hd : n = w.length * (n / w.length) + n % w.length := (Nat.div_add_mod n w.length).symm
    have hm : n % w.length < w.length := Nat.mod_lt _ hl
    have e1 : flatS (if w.length ≤ n then [(w, n / w.length)] else []) = rep w (w.length * (n / w.length)) := by
      split
      · exact flatS_one _ _
      · rename_i c
        rw [Nat.div_eq_of_lt (by omega)]
        rfl
    have e2 : flatS (if 0 < n % w.length then [(w.take (n % w.length), 1)] else []) = rep w (n % w.length) := by
      split
      · rw [flatS_one, Nat.mul_one, rep_short w _ (Nat.le_of_lt hm), rep_short _ _ (Nat.le_refl _), List.take_length]
      · rename_i c
        rw [show n % w.length = 0 by omega]
        rfl
    rw [e1, e2, ← rep_add, ← hd]
theorem rowF_good : ∀ rs : List Rn, Good rs → Good (rowF rs)
  | [], _ => by simp [rowF, Good]
  | (w, n) :: rs, g => by
    have hw : w ≠ [] := g (w, n) List.mem_cons_self
    intro r hr
    rw [rowF_cons] at hr
    rcases List.mem_append.mp hr with hr | hr
    · rcases List.mem_append.mp hr with hr | hr
      · split at hr
        · simp only [List.mem_singleton] at hr
          subst hr
          exact hw
        · cases hr
      · split at hr
        · rename_i c
          simp only [List.mem_singleton] at hr
          subst hr
          intro e
          have := congrArg List.length e
          have hl : 0 < w.length := List.length_pos_iff.mpr hw
          have hm := Nat.mod_lt n hl
          simp at this
          dsimp only at c
          rcases this with q | q
          · omega
          · exact hw q
        · cases hr
    · exact rowF_good rs (fun r hr => g r (List.mem_cons_of_mem _ hr)) r hr
theorem runs_pos (ss : List Rn) (g : Good ss) : Pos (runs ss) := by
  intro r hr
  unfold runs at hr
  obtain ⟨s, hs, rfl⟩ := List.mem_map.mp hr
  obtain ⟨h1, h2⟩ := List.mem_filter.mp hs
  have := g s h1
  exact ⟨this, Nat.mul_pos (List.length_pos_iff.mpr this) (of_decide_eq_true h2)⟩
/-! ### the longest common beginning -/
def lcp : List Int → List Int → Nat
  | a :: as, b :: bs => if a = b then lcp as bs + 1 else 0
  | _, _ => 0
theorem lcp_nil_left (b : List Int) : lcp [] b = 0 := by cases b <;> rfl
theorem lcp_nil_right (a : List Int) : lcp a [] = 0 := by cases a <;> rfl
theorem lcp_le_left : ∀ a b : List Int, lcp a b ≤ a.length
  | [], b => by rw [lcp_nil_left]; exact Nat.zero_le _
  | _ :: _, [] => Nat.zero_le _
  | x :: a, y :: b => by
    unfold lcp
    have := lcp_le_left a b
    split <;> simp <;> omega
theorem lcp_comm : ∀ a b : List Int, lcp a b = lcp b a
  | [], b => by rw [lcp_nil_left, lcp_nil_right]
  | _ :: _, [] => by rw [lcp_nil_left, lcp_nil_right]
  | x :: a, y :: b => by
    unfold lcp
    by_cases c : x = y
    · rw [if_pos c, if_pos c.symm, lcp_comm a b]
    · rw [if_neg c, if_neg (Ne.symm c)]
theorem lcp_le_right (a b : List Int) : lcp a b ≤ b.length := by rw [lcp_comm]; exact lcp_le_left b a
/-- the numbers agree below k, and part there -/
theorem lcp_part : ∀ (a b : List Int) (k : Nat), (∀ i, i < k → a[i]? = b[i]?) → k < a.length → k < b.length → a[k]? ≠ b[k]? → lcp a b = k
  | [], b, k, _, h, _, _ => by simp at h
  | _ :: _, [], k, _, _, h, _ => by simp at h
  | x :: a, y :: b, 0, _, _, _, h => by
    unfold lcp
    rw [if_neg (by simpa using h)]
  | x :: a, y :: b, k + 1, hk, h1, h2, h => by
    unfold lcp
    have e : x = y := by simpa using hk 0 (Nat.succ_pos _)
    rw [if_pos e, lcp_part a b k (fun i hi => by simpa using hk (i + 1) (Nat.succ_lt_succ hi)) (by simpa using h1) (by simpa using h2) (by simpa using h)]
/-- they agree below k: go on behind -/
theorem lcp_on : ∀ (k : Nat) (a b : List Int), (∀ i, i < k → a[i]? = b[i]?) → k ≤ a.length → k ≤ b.length → lcp a b = k + lcp (a.drop k) (b.drop k)
  | 0, a, b, _, _, _ => by simp
  | k + 1, [], b, _, h, _ => by simp at h
  | k + 1, _ :: _, [], _, _, h => by simp at h
  | k + 1, x :: a, y :: b, hk, h1, h2 => by
    have e : x = y := by simpa using hk 0 (Nat.succ_pos _)
    have ih := lcp_on k a b (fun i hi => by simpa using hk (i + 1) (Nat.succ_lt_succ hi)) (by simpa using h1) (by simpa using h2)
    simp only [lcp, if_pos e, List.drop_succ_cons, ih]
    omega
/-- two periodic sequences that agree as long as both periods agree for ever -/
theorem periods (a b : Nat → Int) (p q : Nat) (hp : 0 < p) (hq : 0 < q) (ha : ∀ i, a (i + p) = a i) (hb : ∀ i, b (i + q) = b i) (h : ∀ i, i < p + q → a i = b i) : ∀ n, a n = b n := by
  intro n
  induction n using Nat.strongRecOn with
  | ind n ih =>
    by_cases c : n < p + q
    · exact h n c
    · have e1 : a n = a (n - p) := by have := ha (n - p); rw [Nat.sub_add_cancel (by omega)] at this; exact this
      have e2 : b (n - p) = b (n - p - q) := by have := hb (n - p - q); rw [Nat.sub_add_cancel (by omega)] at this; exact this
      have e3 : a (n - q) = a (n - q - p) := by have := ha (n - q - p); rw [Nat.sub_add_cancel (by omega)] at this; exact this
      have e4 : b n = b (n - q) := by have := hb (n - q); rw [Nat.sub_add_cancel (by omega)] at this; exact this
      have e5 : n - p - q = n - q - p := by omega
      rw [e1, ih (n - p) (by omega), e2, e5, ← ih (n - q - p) (by omega), ← e3, ih (n - q) (by omega), ← e4]
theorem words_agree (w v : List Int) (hw : w ≠ []) (hv : v ≠ []) (h : ∀ i, i < w.length + v.length → w.getD (i % w.length) 0 = v.getD (i % v.length) 0) (n : Nat) : w.getD (n % w.length) 0 = v.getD (n % v.length) 0 :=
  periods (fun i => w.getD (i % w.length) 0) (fun i => v.getD (i % v.length) 0) w.length v.length (List.length_pos_iff.mpr hw) (List.length_pos_iff.mpr hv) (fun i => by simp) (fun i => by simp) h n
end RM
set_option Elab.async false
set_option linter.all false
set_option maxRecDepth 100000
set_option maxHeartbeats 4000000
namespace R4
open PySem L2 PySem.GW
abbrev PW : Program := PySem.Challenge.pw_growwebs_k23_rows_told_in_two_ways
def top (i : Nat) : Stmt := PW.main.body.getD i (.Pass ⟨0, 0, 0, 0⟩)
/-- the function object that stands at f -/
def fdOf (K : PySem.W.Frag) (f : Addr) : FuncData := match K.lookup f with
  | some ⟨_, _, .func fd, _⟩ => fd
  | _ => PySem.W.fnOf "" "" ⟨[], [], none, [], [], none, []⟩ [] ⟨.function, [], false, false, []⟩ .none .none .none .none none .none .none
abbrev fa (K : PySem.W.Frag) (x : Str) : Addr := He.ga K x
abbrev cR (K : PySem.W.Frag) : Addr := He.ga K "Row"
abbrev me (K : PySem.W.Frag) (m : Str) : Addr := He.ma K (cR K) m
abbrev s_is_integer : Stmt := top 12
abbrev s_is_whole : Stmt := top 13
abbrev s_is_list : Stmt := top 14
abbrev s_is_row : Stmt := top 15
abbrev s_is_bud_word : Stmt := top 17
abbrev s_is_stretch : Stmt := top 18
abbrev s_need_stretches : Stmt := top 19
abbrev s_extent_of : Stmt := top 21
abbrev s_row_of : Stmt := top 22
abbrev s_as_row : Stmt := top 23
abbrev s_cut_front : Stmt := top 24
abbrev s_common_of : Stmt := top 25
abbrev s__law_begin : Stmt := top 27
abbrev s__law_draw : Stmt := top 28
abbrev s__law_pick : Stmt := top 29
abbrev s__law_ten : Stmt := top 30
abbrev s__law_is : Stmt := top 31
abbrev s__law_stretches : Stmt := top 32
abbrev s__law_spelled : Stmt := top 33
abbrev s__law_cut : Stmt := top 34
abbrev s__law_beside : Stmt := top 35
abbrev s__law_refused : Stmt := top 36
abbrev s__law_parts_right : Stmt := top 37
abbrev s__law_pair_right : Stmt := top 38
abbrev s__law_wrong_right : Stmt := top 39
abbrev s_law : Stmt := top 40
abbrev s_Row___init__ : Stmt := inClass (top 20) 0
abbrev s_Row_runs : Stmt := inClass (top 20) 1
abbrev s_Row_total : Stmt := inClass (top 20) 2
abbrev s_Row_bud : Stmt := inClass (top 20) 3
abbrev s_Row_plain : Stmt := inClass (top 20) 4
abbrev s_Row_beginning : Stmt := inClass (top 20) 5
abbrev s_Row_behind : Stmt := inClass (top 20) 6
abbrev s_Row_before : Stmt := inClass (top 20) 7
abbrev s_Row_common : Stmt := inClass (top 20) 8
abbrev s_Row___add__ : Stmt := inClass (top 20) 9
abbrev s_Row___eq__ : Stmt := inClass (top 20) 10
theorem sc_is_integer : FnScope ["value"] ["value"] (defScope s_is_integer) := ⟨rfl, rfl, rfl, by decide +kernel, rfl, by decide +kernel, by decide +kernel⟩
theorem sc_is_whole : FnScope ["value", "least"] ["value", "least"] (defScope s_is_whole) := ⟨rfl, rfl, rfl, by decide +kernel, rfl, by decide +kernel, by decide +kernel⟩
theorem sc_is_list : FnScope ["value"] ["value"] (defScope s_is_list) := ⟨rfl, rfl, rfl, by decide +kernel, rfl, by decide +kernel, by decide +kernel⟩
theorem sc_is_row : FnScope ["value", "entry"] ["value"] (defScope s_is_row) := ⟨rfl, rfl, rfl, by decide +kernel, rfl, by decide +kernel, by decide +kernel⟩
theorem sc_is_bud_word : FnScope ["value", "number"] ["value"] (defScope s_is_bud_word) := ⟨rfl, rfl, rfl, by decide +kernel, rfl, by decide +kernel, by decide +kernel⟩
theorem sc_is_stretch : FnScope ["value"] ["value"] (defScope s_is_stretch) := ⟨rfl, rfl, rfl, by decide +kernel, rfl, by decide +kernel, by decide +kernel⟩
theorem sc_need_stretches : FnScope ["value", "at", "stretch"] ["value"] (defScope s_need_stretches) := ⟨rfl, rfl, rfl, by decide +kernel, rfl, by decide +kernel, by decide +kernel⟩
theorem sc_extent_of : FnScope ["runs", "word", "length"] ["runs"] (defScope s_extent_of) := ⟨rfl, rfl, rfl, by decide +kernel, rfl, by decide +kernel, by decide +kernel⟩
theorem sc_row_of : FnScope ["runs", "found", "word", "length"] ["runs"] (defScope s_row_of) := ⟨rfl, rfl, rfl, by decide +kernel, rfl, by decide +kernel, by decide +kernel⟩
theorem sc_as_row : FnScope ["value"] ["value"] (defScope s_as_row) := ⟨rfl, rfl, rfl, by decide +kernel, rfl, by decide +kernel, by decide +kernel⟩
theorem sc_cut_front : FnScope ["runs", "many", "found", "left", "word", "length", "gone", "turn"] ["runs", "many"] (defScope s_cut_front) := ⟨rfl, rfl, rfl, by decide +kernel, rfl, by decide +kernel, by decide +kernel⟩
theorem sc_common_of : FnScope ["one", "other", "same", "word", "length", "sign", "extent", "least", "at"] ["one", "other"] (defScope s_common_of) := ⟨rfl, rfl, rfl, by decide +kernel, rfl, by decide +kernel, by decide +kernel⟩
theorem sc__law_begin : FnScope ["_law_script"] ["_law_script"] (defScope s__law_begin) := ⟨rfl, rfl, rfl, by decide +kernel, rfl, by decide +kernel, by decide +kernel⟩
theorem sc__law_draw : FnScope ["_law_tape", "_law_limit", "_law_at", "_law_span", "_law_cell", "_law_mixed", "_law_found"] ["_law_tape", "_law_limit"] (defScope s__law_draw) := ⟨rfl, rfl, rfl, by decide +kernel, rfl, by decide +kernel, by decide +kernel⟩
theorem sc__law_pick : FnScope ["_law_tape", "_law_some"] ["_law_tape", "_law_some"] (defScope s__law_pick) := ⟨rfl, rfl, rfl, by decide +kernel, rfl, by decide +kernel, by decide +kernel⟩
theorem sc__law_ten : FnScope ["_law_figures"] ["_law_figures"] (defScope s__law_ten) := ⟨rfl, rfl, rfl, by decide +kernel, rfl, by decide +kernel, by decide +kernel⟩
theorem sc__law_is : FnScope ["_law_value", "_law_truth"] ["_law_value", "_law_truth"] (defScope s__law_is) := ⟨rfl, rfl, rfl, by decide +kernel, rfl, by decide +kernel, by decide +kernel⟩
theorem sc__law_stretches : FnScope ["_law_tape", "_law_k", "_law_n"] ["_law_tape"] (defScope s__law_stretches) := ⟨rfl, rfl, rfl, by decide +kernel, rfl, by decide +kernel, by decide +kernel⟩
theorem sc__law_spelled : FnScope ["_law_stretches_here", "_law_found", "_law_word", "_law_times"] ["_law_stretches_here"] (defScope s__law_spelled) := ⟨rfl, rfl, rfl, by decide +kernel, rfl, by decide +kernel, by decide +kernel⟩
theorem sc__law_cut : FnScope ["_law_tape", "_law_flat", "_law_found", "_law_at", "_law_size", "_law_word", "_law_times"] ["_law_tape", "_law_flat"] (defScope s__law_cut) := ⟨rfl, rfl, rfl, by decide +kernel, rfl, by decide +kernel, by decide +kernel⟩
theorem sc__law_beside : FnScope ["_law_tape", "_law_flat", "_law_at", "_law_more", "_law_k"] ["_law_tape", "_law_flat"] (defScope s__law_beside) := ⟨rfl, rfl, rfl, by decide +kernel, rfl, by decide +kernel, by decide +kernel⟩
theorem sc__law_refused : FnScope ["_law_call", "_law_found", "e"] ["_law_call"] (defScope s__law_refused) := ⟨rfl, rfl, rfl, by decide +kernel, rfl, by decide +kernel, by decide +kernel⟩
theorem sc__law_parts_right : FnScope ["_law_tape", "_law_row", "_law_flat", "_law_step", "_law_asked", "_law_at", "_law_cut_here", "_law_one", "_law_other", "_law_wrong", "_law_calls", "_law_many", "_law_k"] ["_law_tape", "_law_row", "_law_flat"] (defScope s__law_parts_right) := ⟨rfl, rfl, rfl, by decide +kernel, rfl, by decide +kernel, by decide +kernel⟩
theorem sc__law_pair_right : FnScope ["_law_tape", "_law_row", "_law_flat", "_law_other", "_law_rows", "_law_same", "_law_one", "_law_back", "_law_k"] ["_law_tape", "_law_row", "_law_flat", "_law_other"] (defScope s__law_pair_right) := ⟨rfl, rfl, rfl, by decide +kernel, rfl, by decide +kernel, by decide +kernel⟩
theorem sc__law_wrong_right : FnScope ["_law_tape", "_law_stretches_here", "_law_at", "_law_odd", "_law_tale", "_law_value"] ["_law_tape", "_law_stretches_here"] (defScope s__law_wrong_right) := ⟨rfl, rfl, rfl, by decide +kernel, rfl, by decide +kernel, by decide +kernel⟩
theorem sc_law : FnScope ["_law_script", "_law_tape", "_law_turn", "_law_stretches_here", "_law_flat", "_law_told", "_law_row", "_law_word", "_law_times", "_law_again"] ["_law_script"] (defScope s_law) := ⟨rfl, rfl, rfl, by decide +kernel, rfl, by decide +kernel, by decide +kernel⟩
theorem sc_Row___init__ : FnScope ["self", "stretches", "checked", "word", "times"] ["self", "stretches", "checked"] (defScope s_Row___init__) := ⟨rfl, rfl, rfl, by decide +kernel, rfl, by decide +kernel, by decide +kernel⟩
theorem sc_Row_runs : FnScope ["self", "word", "times"] ["self"] (defScope s_Row_runs) := ⟨rfl, rfl, rfl, by decide +kernel, rfl, by decide +kernel, by decide +kernel⟩
theorem sc_Row_total : FnScope ["self"] ["self"] (defScope s_Row_total) := ⟨rfl, rfl, rfl, by decide +kernel, rfl, by decide +kernel, by decide +kernel⟩
theorem sc_Row_bud : FnScope ["self", "index", "left", "word", "length"] ["self", "index"] (defScope s_Row_bud) := ⟨rfl, rfl, rfl, by decide +kernel, rfl, by decide +kernel, by decide +kernel⟩
theorem sc_Row_plain : FnScope ["self", "most", "found", "word", "times"] ["self", "most"] (defScope s_Row_plain) := ⟨rfl, rfl, rfl, by decide +kernel, rfl, by decide +kernel, by decide +kernel⟩
theorem sc_Row_beginning : FnScope ["self", "many", "left", "found", "word", "length"] ["self", "many"] (defScope s_Row_beginning) := ⟨rfl, rfl, rfl, by decide +kernel, rfl, by decide +kernel, by decide +kernel⟩
theorem sc_Row_behind : FnScope ["self", "many"] ["self", "many"] (defScope s_Row_behind) := ⟨rfl, rfl, rfl, by decide +kernel, rfl, by decide +kernel, by decide +kernel⟩
theorem sc_Row_before : FnScope ["self", "other", "same"] ["self", "other"] (defScope s_Row_before) := ⟨rfl, rfl, rfl, by decide +kernel, rfl, by decide +kernel, by decide +kernel⟩
theorem sc_Row_common : FnScope ["self", "other"] ["self", "other"] (defScope s_Row_common) := ⟨rfl, rfl, rfl, by decide +kernel, rfl, by decide +kernel, by decide +kernel⟩
theorem sc_Row___add__ : FnScope ["self", "other"] ["self", "other"] (defScope s_Row___add__) := ⟨rfl, rfl, rfl, by decide +kernel, rfl, by decide +kernel, by decide +kernel⟩
theorem sc_Row___eq__ : FnScope ["self", "other", "ours", "theirs"] ["self", "other"] (defScope s_Row___eq__) := ⟨rfl, rfl, rfl, by decide +kernel, rfl, by decide +kernel, by decide +kernel⟩
def fl_NoPiece : List Fl := [⟨"row", ⟨7, 25, 7, 28⟩, ⟨8, 8, 8, 12⟩, ⟨8, 8, 8, 16⟩, ⟨8, 19, 8, 22⟩, ⟨8, 8, 8, 22⟩⟩]
theorem ini_NoPiece : IniOk (inClass (top 2) 0) fl_NoPiece := ⟨⟨⟨7, 8, 7, 13⟩, ⟨7, 8, 7, 15⟩, ⟨7, 8, 7, 24⟩, ⟨7, 8, 7, 29⟩, ⟨7, 8, 7, 29⟩, rfl, rfl⟩, by decide +kernel, by decide +kernel, by decide +kernel, ⟨_, rfl⟩, rfl, rfl, rfl, by decide +kernel, by decide +kernel, by decide +kernel, by decide +kernel, by decide +kernel⟩
theorem eb_NoPiece_1 : EBind (defArgs (inClass (top 2) 0)) (defScope (inClass (top 2) 0)) fl_NoPiece fl_NoPiece.length [] := by
  intro us ws h1 h2 s e qual body doc pm an cda ct cc
  match us, ws, h1, h2 with
  | [_], [], _, _ => exact .of_eq rfl
def fl_TooMany : List Fl := [⟨"most", ⟨12, 25, 12, 29⟩, ⟨13, 8, 13, 12⟩, ⟨13, 8, 13, 17⟩, ⟨13, 20, 13, 24⟩, ⟨13, 8, 13, 24⟩⟩]
theorem ini_TooMany : IniOk (inClass (top 3) 0) fl_TooMany := ⟨⟨⟨12, 8, 12, 13⟩, ⟨12, 8, 12, 15⟩, ⟨12, 8, 12, 24⟩, ⟨12, 8, 12, 30⟩, ⟨12, 8, 12, 30⟩, rfl, rfl⟩, by decide +kernel, by decide +kernel, by decide +kernel, ⟨_, rfl⟩, rfl, rfl, rfl, by decide +kernel, by decide +kernel, by decide +kernel, by decide +kernel, by decide +kernel⟩
theorem eb_TooMany_1 : EBind (defArgs (inClass (top 3) 0)) (defScope (inClass (top 3) 0)) fl_TooMany fl_TooMany.length [] := by
  intro us ws h1 h2 s e qual body doc pm an cda ct cc
  match us, ws, h1, h2 with
  | [_], [], _, _ => exact .of_eq rfl
def fl_BadRow : List Fl := [⟨"index", ⟨17, 25, 17, 30⟩, ⟨18, 8, 18, 12⟩, ⟨18, 8, 18, 18⟩, ⟨18, 21, 18, 26⟩, ⟨18, 8, 18, 26⟩⟩]
theorem ini_BadRow : IniOk (inClass (top 4) 0) fl_BadRow := ⟨⟨⟨17, 8, 17, 13⟩, ⟨17, 8, 17, 15⟩, ⟨17, 8, 17, 24⟩, ⟨17, 8, 17, 31⟩, ⟨17, 8, 17, 31⟩, rfl, rfl⟩, by decide +kernel, by decide +kernel, by decide +kernel, ⟨_, rfl⟩, rfl, rfl, rfl, by decide +kernel, by decide +kernel, by decide +kernel, by decide +kernel, by decide +kernel⟩
theorem eb_BadRow_1 : EBind (defArgs (inClass (top 4) 0)) (defScope (inClass (top 4) 0)) fl_BadRow fl_BadRow.length [] := by
  intro us ws h1 h2 s e qual body doc pm an cda ct cc
  match us, ws, h1, h2 with
  | [_], [], _, _ => exact .of_eq rfl
def fl_OutsideRow : List Fl := [⟨"number", ⟨22, 25, 22, 31⟩, ⟨23, 8, 23, 12⟩, ⟨23, 8, 23, 19⟩, ⟨23, 22, 23, 28⟩, ⟨23, 8, 23, 28⟩⟩]
theorem ini_OutsideRow : IniOk (inClass (top 5) 0) fl_OutsideRow := ⟨⟨⟨22, 8, 22, 13⟩, ⟨22, 8, 22, 15⟩, ⟨22, 8, 22, 24⟩, ⟨22, 8, 22, 32⟩, ⟨22, 8, 22, 32⟩, rfl, rfl⟩, by decide +kernel, by decide +kernel, by decide +kernel, ⟨_, rfl⟩, rfl, rfl, rfl, by decide +kernel, by decide +kernel, by decide +kernel, by decide +kernel, by decide +kernel⟩
theorem eb_OutsideRow_1 : EBind (defArgs (inClass (top 5) 0)) (defScope (inClass (top 5) 0)) fl_OutsideRow fl_OutsideRow.length [] := by
  intro us ws h1 h2 s e qual body doc pm an cda ct cc
  match us, ws, h1, h2 with
  | [_], [], _, _ => exact .of_eq rfl
/-- what the top has made -/
structure Top (K : PySem.W.Frag) (mg : Str → Option Value) : Prop where
  z_isinstance : mg "isinstance" = none
  z_int : mg "int" = none
  z_bool : mg "bool" = none
  z_list : mg "list" = none
  z_tuple : mg "tuple" = none
  z_len : mg "len" = none
  z_min : mg "min" = none
  z_max : mg "max" = none
  z_sum : mg "sum" = none
  z_all : mg "all" = none
  z_range : mg "range" = none
  z_enumerate : mg "enumerate" = none
  z_super : mg "super" = none
  z_str : mg "str" = none
  z_dict : mg "dict" = none
  z_repr : mg "repr" = none
  c_MOST_BUDS : ∃ t, mg "MOST_BUDS" = some (.int (4) t)
  c_MOST_PLAIN : ∃ t, mg "MOST_PLAIN" = some (.int (2000) t)
  c_MOST_STRETCHES : ∃ t, mg "MOST_STRETCHES" = some (.int (20) t)
  c_MOST_WORD : ∃ t, mg "MOST_WORD" = some (.int (40) t)
  c_MOST_TIMES : ∃ t, mg "MOST_TIMES" = some (.int (10 ^ 300) t)
  F_is_integer : Fun K "is_integer" "is_integer" s_is_integer (fa K "is_integer") (fdOf K (fa K "is_integer"))
  g_is_integer : mg "is_integer" = some (.ref (fa K "is_integer"))
  b_is_integer : Binds K (fdOf K (fa K "is_integer")) ["value"] []
  F_is_whole : Fun K "is_whole" "is_whole" s_is_whole (fa K "is_whole") (fdOf K (fa K "is_whole"))
  g_is_whole : mg "is_whole" = some (.ref (fa K "is_whole"))
  b_is_whole : Binds K (fdOf K (fa K "is_whole")) ["value", "least"] []
  F_is_list : Fun K "is_list" "is_list" s_is_list (fa K "is_list") (fdOf K (fa K "is_list"))
  g_is_list : mg "is_list" = some (.ref (fa K "is_list"))
  b_is_list : Binds K (fdOf K (fa K "is_list")) ["value"] []
  F_is_row : Fun K "is_row" "is_row" s_is_row (fa K "is_row") (fdOf K (fa K "is_row"))
  g_is_row : mg "is_row" = some (.ref (fa K "is_row"))
  b_is_row : Binds K (fdOf K (fa K "is_row")) ["value"] []
  F_is_bud_word : Fun K "is_bud_word" "is_bud_word" s_is_bud_word (fa K "is_bud_word") (fdOf K (fa K "is_bud_word"))
  g_is_bud_word : mg "is_bud_word" = some (.ref (fa K "is_bud_word"))
  b_is_bud_word : Binds K (fdOf K (fa K "is_bud_word")) ["value"] []
  F_is_stretch : Fun K "is_stretch" "is_stretch" s_is_stretch (fa K "is_stretch") (fdOf K (fa K "is_stretch"))
  g_is_stretch : mg "is_stretch" = some (.ref (fa K "is_stretch"))
  b_is_stretch : Binds K (fdOf K (fa K "is_stretch")) ["value"] []
  F_need_stretches : Fun K "need_stretches" "need_stretches" s_need_stretches (fa K "need_stretches") (fdOf K (fa K "need_stretches"))
  g_need_stretches : mg "need_stretches" = some (.ref (fa K "need_stretches"))
  b_need_stretches : Binds K (fdOf K (fa K "need_stretches")) ["value"] []
  F_extent_of : Fun K "extent_of" "extent_of" s_extent_of (fa K "extent_of") (fdOf K (fa K "extent_of"))
  g_extent_of : mg "extent_of" = some (.ref (fa K "extent_of"))
  b_extent_of : Binds K (fdOf K (fa K "extent_of")) ["runs"] []
  F_row_of : Fun K "row_of" "row_of" s_row_of (fa K "row_of") (fdOf K (fa K "row_of"))
  g_row_of : mg "row_of" = some (.ref (fa K "row_of"))
  b_row_of : Binds K (fdOf K (fa K "row_of")) ["runs"] []
  F_as_row : Fun K "as_row" "as_row" s_as_row (fa K "as_row") (fdOf K (fa K "as_row"))
  g_as_row : mg "as_row" = some (.ref (fa K "as_row"))
  b_as_row : Binds K (fdOf K (fa K "as_row")) ["value"] []
  F_cut_front : Fun K "cut_front" "cut_front" s_cut_front (fa K "cut_front") (fdOf K (fa K "cut_front"))
  g_cut_front : mg "cut_front" = some (.ref (fa K "cut_front"))
  b_cut_front : Binds K (fdOf K (fa K "cut_front")) ["runs", "many"] []
  F_common_of : Fun K "common_of" "common_of" s_common_of (fa K "common_of") (fdOf K (fa K "common_of"))
  g_common_of : mg "common_of" = some (.ref (fa K "common_of"))
  b_common_of : Binds K (fdOf K (fa K "common_of")) ["one", "other"] []
  F__law_begin : Fun K "_law_begin" "_law_begin" s__law_begin (fa K "_law_begin") (fdOf K (fa K "_law_begin"))
  g__law_begin : mg "_law_begin" = some (.ref (fa K "_law_begin"))
  b__law_begin : Binds K (fdOf K (fa K "_law_begin")) ["_law_script"] []
  F__law_draw : Fun K "_law_draw" "_law_draw" s__law_draw (fa K "_law_draw") (fdOf K (fa K "_law_draw"))
  g__law_draw : mg "_law_draw" = some (.ref (fa K "_law_draw"))
  b__law_draw : Binds K (fdOf K (fa K "_law_draw")) ["_law_tape", "_law_limit"] []
  F__law_pick : Fun K "_law_pick" "_law_pick" s__law_pick (fa K "_law_pick") (fdOf K (fa K "_law_pick"))
  g__law_pick : mg "_law_pick" = some (.ref (fa K "_law_pick"))
  b__law_pick : Binds K (fdOf K (fa K "_law_pick")) ["_law_tape", "_law_some"] []
  F__law_ten : Fun K "_law_ten" "_law_ten" s__law_ten (fa K "_law_ten") (fdOf K (fa K "_law_ten"))
  g__law_ten : mg "_law_ten" = some (.ref (fa K "_law_ten"))
  b__law_ten : Binds K (fdOf K (fa K "_law_ten")) ["_law_figures"] []
  F__law_is : Fun K "_law_is" "_law_is" s__law_is (fa K "_law_is") (fdOf K (fa K "_law_is"))
  g__law_is : mg "_law_is" = some (.ref (fa K "_law_is"))
  b__law_is : Binds K (fdOf K (fa K "_law_is")) ["_law_value", "_law_truth"] []
  F__law_stretches : Fun K "_law_stretches" "_law_stretches" s__law_stretches (fa K "_law_stretches") (fdOf K (fa K "_law_stretches"))
  g__law_stretches : mg "_law_stretches" = some (.ref (fa K "_law_stretches"))
  b__law_stretches : Binds K (fdOf K (fa K "_law_stretches")) ["_law_tape"] []
  F__law_spelled : Fun K "_law_spelled" "_law_spelled" s__law_spelled (fa K "_law_spelled") (fdOf K (fa K "_law_spelled"))
  g__law_spelled : mg "_law_spelled" = some (.ref (fa K "_law_spelled"))
  b__law_spelled : Binds K (fdOf K (fa K "_law_spelled")) ["_law_stretches_here"] []
  F__law_cut : Fun K "_law_cut" "_law_cut" s__law_cut (fa K "_law_cut") (fdOf K (fa K "_law_cut"))
  g__law_cut : mg "_law_cut" = some (.ref (fa K "_law_cut"))
  b__law_cut : Binds K (fdOf K (fa K "_law_cut")) ["_law_tape", "_law_flat"] []
  F__law_beside : Fun K "_law_beside" "_law_beside" s__law_beside (fa K "_law_beside") (fdOf K (fa K "_law_beside"))
  g__law_beside : mg "_law_beside" = some (.ref (fa K "_law_beside"))
  b__law_beside : Binds K (fdOf K (fa K "_law_beside")) ["_law_tape", "_law_flat"] []
  F__law_refused : Fun K "_law_refused" "_law_refused" s__law_refused (fa K "_law_refused") (fdOf K (fa K "_law_refused"))
  g__law_refused : mg "_law_refused" = some (.ref (fa K "_law_refused"))
  b__law_refused : Binds K (fdOf K (fa K "_law_refused")) ["_law_call"] []
  F__law_parts_right : Fun K "_law_parts_right" "_law_parts_right" s__law_parts_right (fa K "_law_parts_right") (fdOf K (fa K "_law_parts_right"))
  g__law_parts_right : mg "_law_parts_right" = some (.ref (fa K "_law_parts_right"))
  b__law_parts_right : Binds K (fdOf K (fa K "_law_parts_right")) ["_law_tape", "_law_row", "_law_flat"] []
  F__law_pair_right : Fun K "_law_pair_right" "_law_pair_right" s__law_pair_right (fa K "_law_pair_right") (fdOf K (fa K "_law_pair_right"))
  g__law_pair_right : mg "_law_pair_right" = some (.ref (fa K "_law_pair_right"))
  b__law_pair_right : Binds K (fdOf K (fa K "_law_pair_right")) ["_law_tape", "_law_row", "_law_flat", "_law_other"] []
  F__law_wrong_right : Fun K "_law_wrong_right" "_law_wrong_right" s__law_wrong_right (fa K "_law_wrong_right") (fdOf K (fa K "_law_wrong_right"))
  g__law_wrong_right : mg "_law_wrong_right" = some (.ref (fa K "_law_wrong_right"))
  b__law_wrong_right : Binds K (fdOf K (fa K "_law_wrong_right")) ["_law_tape", "_law_stretches_here"] []
  F_law : Fun K "law" "law" s_law (fa K "law") (fdOf K (fa K "law"))
  g_law : mg "law" = some (.ref (fa K "law"))
  b_law : Binds K (fdOf K (fa K "law")) ["_law_script"] []
  F_Row_runs : Fun K "runs" "Row.runs" s_Row_runs (me K "runs") (fdOf K (me K "runs"))
  b_Row_runs : Binds K (fdOf K (me K "runs")) ["self"] []
  m_runs : Meth K (cR K) "runs" (me K "runs")
  F_Row_total : Fun K "total" "Row.total" s_Row_total (me K "total") (fdOf K (me K "total"))
  b_Row_total : Binds K (fdOf K (me K "total")) ["self"] []
  m_total : Meth K (cR K) "total" (me K "total")
  F_Row_bud : Fun K "bud" "Row.bud" s_Row_bud (me K "bud") (fdOf K (me K "bud"))
  b_Row_bud : Binds K (fdOf K (me K "bud")) ["self", "index"] []
  m_bud : Meth K (cR K) "bud" (me K "bud")
  F_Row_beginning : Fun K "beginning" "Row.beginning" s_Row_beginning (me K "beginning") (fdOf K (me K "beginning"))
  b_Row_beginning : Binds K (fdOf K (me K "beginning")) ["self", "many"] []
  m_beginning : Meth K (cR K) "beginning" (me K "beginning")
  F_Row_behind : Fun K "behind" "Row.behind" s_Row_behind (me K "behind") (fdOf K (me K "behind"))
  b_Row_behind : Binds K (fdOf K (me K "behind")) ["self", "many"] []
  m_behind : Meth K (cR K) "behind" (me K "behind")
  F_Row_before : Fun K "before" "Row.before" s_Row_before (me K "before") (fdOf K (me K "before"))
  b_Row_before : Binds K (fdOf K (me K "before")) ["self", "other"] []
  m_before : Meth K (cR K) "before" (me K "before")
  F_Row_common : Fun K "common" "Row.common" s_Row_common (me K "common") (fdOf K (me K "common"))
  b_Row_common : Binds K (fdOf K (me K "common")) ["self", "other"] []
  m_common : Meth K (cR K) "common" (me K "common")
  F_Row___add__ : Fun K "__add__" "Row.__add__" s_Row___add__ (me K "__add__") (fdOf K (me K "__add__"))
  b_Row___add__ : Binds K (fdOf K (me K "__add__")) ["self", "other"] []
  m___add__ : Meth K (cR K) "__add__" (me K "__add__")
  F_Row___eq__ : Fun K "__eq__" "Row.__eq__" s_Row___eq__ (me K "__eq__") (fdOf K (me K "__eq__"))
  b_Row___eq__ : Binds K (fdOf K (me K "__eq__")) ["self", "other"] []
  m___eq__ : Meth K (cR K) "__eq__" (me K "__eq__")
  g_Row : mg "Row" = some (.ref (cR K))
  cl : Cls K (cR K)
  nS : NoAttr K (cR K) "stretches"
  mkR : Mk K (cR K) (me K "__init__")
  D_init : ∃ e0 : Addr, FunD K "__init__" "Row.__init__" (defArgs s_Row___init__) (defBody s_Row___init__) (defScope s_Row___init__) [.ref e0] [("checked", .bl true)] (me K "__init__") (fdOf K (me K "__init__"))
  D_init0 : FunD K "__init__" "Row.__init__" (defArgs s_Row___init__) (defBody s_Row___init__) (defScope s_Row___init__) [.ref (He.dflAt ("Row", some "__init__") 0 K)] [("checked", .bl true)] (me K "__init__") (fdOf K (me K "__init__"))
  D_plain : FunD K "plain" "Row.plain" (defArgs s_Row_plain) (defBody s_Row_plain) (defScope s_Row_plain) [] [("most", .int 2000)] (me K "plain") (fdOf K (me K "plain"))
  i_cls : PySem.W.findIn K (.ref (cR K)) "__class__" = some (some (.builtin "object.__class__"))
  i_get : PySem.W.specialIn K (.builtin "object.__class__") "__get__" = some (some (.builtin "getset_descriptor.__get__"))
  i_tk : PySem.W.takesIn K (.builtin "object.__class__") = some true
  i_mro : PySem.W.mroIn K (cR K) (.type "object") = some true
  k_row : PySem.W.kitOne K (.ref (cR K)) (.ref (cR K)) = some true
  k_tuple : PySem.W.kitOne K (.type "tuple") (.ref (cR K)) = some false
  k_list : PySem.W.kitOne K (.type "list") (.ref (cR K)) = some false
  k_int : PySem.W.kitOne K (.type "int") (.ref (cR K)) = some false
  k_str : PySem.W.kitOne K (.type "str") (.ref (cR K)) = some false
  k_bool : PySem.W.kitOne K (.type "bool") (.ref (cR K)) = some false
  k_NoneType : PySem.W.kitOne K (.type "NoneType") (.ref (cR K)) = some false
  k_float : PySem.W.kitOne K (.type "float") (.ref (cR K)) = some false
  k_dict : PySem.W.kitOne K (.type "dict") (.ref (cR K)) = some false
  m_plain : Meth K (cR K) "plain" (me K "plain")
  s_first : PySem.W.selfFirst K (cR K) = true
  f_ne : PySem.W.findIn K (.ref (cR K)) "__ne__" = some (some (.builtin "object.__ne__"))
  o_sub : PySem.W.subIn K (.ref (cR K)) (.type "object") = some true
  x_BadRow_BadRow : PySem.W.exmOne K (.ref (He.ga K "BadRow")) (.ref (He.ga K "BadRow")) = some true
  x_OutsideRow_BadRow : PySem.W.exmOne K (.ref (He.ga K "OutsideRow")) (.ref (He.ga K "BadRow")) = some false
  x_OutsideRow_OutsideRow : PySem.W.exmOne K (.ref (He.ga K "OutsideRow")) (.ref (He.ga K "OutsideRow")) = some true
  x_TooMany_BadRow : PySem.W.exmOne K (.ref (He.ga K "TooMany")) (.ref (He.ga K "BadRow")) = some false
  x_TooMany_OutsideRow : PySem.W.exmOne K (.ref (He.ga K "TooMany")) (.ref (He.ga K "OutsideRow")) = some false
  x_TooMany_TooMany : PySem.W.exmOne K (.ref (He.ga K "TooMany")) (.ref (He.ga K "TooMany")) = some true
  q_BadRow_OutsideRow : PySem.W.kitOne K (.ref (He.ga K "BadRow")) (.ref (He.ga K "OutsideRow")) = some false
  q_BadRow_TooMany : PySem.W.kitOne K (.ref (He.ga K "BadRow")) (.ref (He.ga K "TooMany")) = some false
  q_OutsideRow_TooMany : PySem.W.kitOne K (.ref (He.ga K "OutsideRow")) (.ref (He.ga K "TooMany")) = some false
  t_sub1 : PySem.W.subIn K (.type "tuple") (.ref (cR K)) = some false
  t_sub2 : PySem.W.subIn K (.ref (cR K)) (.type "tuple") = some false
  g_WebError : mg "WebError" = some (.ref (He.ga K "WebError"))
  e0_nil : ∀ H : Hp, SqT K H (He.dflAt ("Row", some "__init__") 0 K) []
  e_NoPiece : ErrX PW K mg (He.ga K "WebError") "NoPiece" (He.ga K "NoPiece") (He.ma K (He.ga K "NoPiece") "__init__") (defArgs (inClass (top 2) 0)) (defScope (inClass (top 2) 0)) fl_NoPiece
  e_TooMany : ErrX PW K mg (He.ga K "WebError") "TooMany" (He.ga K "TooMany") (He.ma K (He.ga K "TooMany") "__init__") (defArgs (inClass (top 3) 0)) (defScope (inClass (top 3) 0)) fl_TooMany
  e_BadRow : ErrX PW K mg (He.ga K "WebError") "BadRow" (He.ga K "BadRow") (He.ma K (He.ga K "BadRow") "__init__") (defArgs (inClass (top 4) 0)) (defScope (inClass (top 4) 0)) fl_BadRow
  e_OutsideRow : ErrX PW K mg (He.ga K "WebError") "OutsideRow" (He.ga K "OutsideRow") (He.ma K (He.ga K "OutsideRow") "__init__") (defArgs (inClass (top 5) 0)) (defScope (inClass (top 5) 0)) fl_OutsideRow
theorem pi_or {X : Cx} {tg it : Expr} {w1 w2 : TI} (h1 : PI X tg it w1) (h2 : PI X tg it w2) : PI X tg it (fun σ H R => w1 σ H R ∨ w2 σ H R) :=
  ⟨fun pins s σ H R I h => h.elim (h1.run pins s σ H R I) (h2.run pins s σ H R I)⟩
end R4
set_option Elab.async false
set_option linter.all false
set_option maxRecDepth 100000
set_option maxHeartbeats 4000000
namespace R4
open PySem L2 PySem.GW
open RM (Rn)
section
variable {w : World} {K : PySem.W.Frag} {mg : Str → Option Value} {base : Heap}
theorem Same.seqT {K : PySem.W.Frag} {H H' : Hp} {a : Addr} {xs : List V} (e : Same H H') (h : SqT K H a xs) : SqT K H' a xs := by
  rcases h with (h | ⟨o, h⟩) | h
  · exact .inl (.inl (e _ _ h))
  · exact .inl (.inr ⟨o, e _ _ h⟩)
  · exact .inr h
theorem same_upd {H : Hp} {p : Addr} {o : HO} (h : H p = none) : Same H (upd H p o) := fun b u e => by rw [upd_ne (ne_of_none e h)]; exact e
theorem ty_tup {K : PySem.W.Frag} {H : Hp} {a : Addr} {xs : List V} (h : SqT K H a xs) : TyX K H (.ref a) (.type "tuple") := by
  rcases h with (h | ⟨o, h⟩) | ⟨o, its, n, h1, h2, h3, h4, h5⟩
  · exact .base (.tup h)
  · exact .fTuple h
  · exact .kTuple h1 h2
theorem ty_lst {K : PySem.W.Frag} {H : Hp} {a : Addr} {xs : List V} (h : SqL K H a xs) : TyX K H (.ref a) (.type "list") := by
  rcases h with (h | ⟨o, h⟩) | ⟨o, its, n, h1, h2, h3, h4, h5⟩
  · exact .base (.lst h)
  · exact .base (.frz h)
  · exact .kList h1 h2
theorem TyX.same {K : PySem.W.Frag} {H H' : Hp} {v : V} {t : Value} (e : Same H H') (h : TyX K H v t) : TyX K H' v t := by
  cases h with
  | base b =>
    cases b with
    | non => exact .base .non
    | bl x => exact .base (.bl x)
    | int i => exact .base (.int i)
    | str x => exact .base (.str x)
    | flt x => exact .base (.flt x)
    | lst q => exact .base (.lst (e _ _ q))
    | frz q => exact .base (.frz (e _ _ q))
    | tup q => exact .base (.tup (e _ _ q))
    | dK q => exact .base (.dK (e _ _ q))
    | dT q => exact .base (.dT (e _ _ q))
    | ins q cl ha hn htk hm => exact .base (.ins (e _ _ q) cl ha hn htk hm)
  | byt b => exact .byt b
  | set q => exact .set (e _ _ q)
  | kList q c => exact .kList q c
  | kTuple q c => exact .kTuple q c
  | kDict q c => exact .kDict q c
  | fTuple q => exact .fTuple (e _ _ q)
  | fDict q => exact .fDict (e _ _ q)
/-- a list or a tuple of xs -/
def Sq (K : PySem.W.Frag) (H : Hp) (a : Addr) (xs : List V) : Prop := SqL K H a xs ∨ SqT K H a xs
theorem Same.sq {K : PySem.W.Frag} {H H' : Hp} {a : Addr} {xs : List V} (e : Same H H') (h : Sq K H a xs) : Sq K H' a xs := h.elim (fun h => .inl (e.seq h)) fun h => .inr (Same.seqT e h)
theorem Sq.ty {K : PySem.W.Frag} {H : Hp} {a : Addr} {xs : List V} (h : Sq K H a xs) : ∃ n, TyX K H (.ref a) (.type n) ∧ PySem.W.kitAny K (.type n) [.type "list", .type "tuple"] = some true := by
  rcases h with h | h
  · exact ⟨_, ty_lst h, kitAny_cons (b := true) (kit_ty (by decide +kernel)) (fun e => nomatch e) fun _ => rfl⟩
  · exact ⟨_, ty_tup h, kitAny_cons (b := false) (kit_ty (by decide +kernel)) (fun _ => kitAny_cons (b := true) (kit_ty (by decide +kernel)) (fun e => nomatch e) fun _ => rfl) fun e => nomatch e⟩
theorem ifT {c : Bool} {A B : Prop} (hc : c = true) (h : A) : if c = true then A else B := by rw [if_pos hc]; exact h
theorem ifF {c : Bool} {A B : Prop} (hc : c = false) (h : B) : if c = true then A else B := by rw [hc]; exact iteF h
theorem nd {p : Prop} [Decidable p] (h : p) : (!decide p) = false := by rw [decide_eq_true h]; rfl
theorem nn {p : Prop} [Decidable p] (h : ¬ p) : (!decide p) = true := by rw [decide_eq_false h]; rfl
theorem all_rep (n : Nat) : (List.replicate n true).all id = true := by
  induction n with
  | zero => rfl
  | succ n ih => rw [List.replicate_succ, List.all_cons, ih]; rfl
theorem map_at {ns : List Int} {i : Nat} {x : V} (h : (ns.map V.int)[i]? = some x) : ∃ z, ns[i]? = some z ∧ x = .int z := by
  rw [List.getElem?_map] at h
  obtain ⟨z, hz, e⟩ := Option.map_eq_some_iff.mp h
  exact ⟨z, hz, e.symm⟩
theorem paired_at {α β : Type} {R : α → β → Prop} : ∀ {xs : List α} {ys : List β} {i : Nat} {x : α}, Paired R xs ys → xs[i]? = some x → ∃ y, ys[i]? = some y ∧ R x y
  | _, _, _, _, .nil, e => by simp at e
  | _, _, 0, _, .cons r _, e => by simp at e; subst e; exact ⟨_, rfl, r⟩
  | _, _, i + 1, x, .cons _ t, e => by
    obtain ⟨u, h1, h2⟩ := paired_at (i := i) (x := x) t (by simpa using e)
    exact ⟨u, by simpa using h1, h2⟩
theorem for_enum {K : PySem.W.Frag} {a : Addr} {xs : List V} {g : TG} {tb : TS} {D : Ends} {σ : St} {H : Hp} (Pv : Nat → St → Hp → Prop) (h0 : Pv 0 σ H) (hl : ∀ i σ H, i ≤ xs.length → Pv i σ H → SqL K H a xs)
    (hs : ∀ i x T σ H, xs[i]? = some x → Pv i σ H → H T = none → g (.ref T) σ (upd H T (.tup [.int (i : Nat), x])) fun σ2 H2 => tb { D with nx := Pv (i + 1), ct := Pv (i + 1), bk := D.nx } σ2 H2) (hd : ∀ σ H, Pv xs.length σ H → D.nx σ H) :
    ∃ W : Nat → Nat → St → Hp → Prop, (∃ m, W 0 m σ H) ∧ ∀ i m σ H, W i m σ H →
      ((Ite K a).stop i H ∧ D.nx σ H) ∨ ((Ite K a).go i H ∧ ∃ N : St → Hp → Prop, (∀ σ' H', N σ' H' → ∃ m', m' < m ∧ W (i + 1) m' σ' H') ∧ ∀ x H', (Ite K a).yld i H x H' → g x σ H' fun σ2 H2 => tb { D with nx := N, ct := N, bk := D.nx } σ2 H2) := by
  refine ⟨fun i m σ H => m = xs.length - i ∧ i ≤ xs.length ∧ Pv i σ H, ⟨xs.length, rfl, Nat.zero_le _, h0⟩, ?_⟩
  rintro i m σ H ⟨rfl, hi, pv⟩
  have hq := hl i σ H hi pv
  by_cases hlt : i < xs.length
  · refine .inr ⟨⟨xs, xs[i], hq, by simp [hlt]⟩, Pv (i + 1), fun σ' H' p' => ⟨xs.length - (i + 1), by omega, rfl, hlt, p'⟩, fun x H' y => ?_⟩
    obtain ⟨T, z, rfl, hT, rfl, hz⟩ := y
    exact hs i z T σ H (hz xs hq) pv hT
  · refine .inl ⟨⟨xs, hq, by omega⟩, hd σ H ?_⟩
    have e : i = xs.length := by omega
    rw [← e]
    exact pv
/-! ### what is asked of values -/
def spInt (K : PySem.W.Frag) : Sp := fun vs H Q _ => ∃ (v : V) (n : String) (b1 b2 : Bool), vs = [v] ∧ TyX K H v (.type n) ∧ kitB n "int" = some b1 ∧ kitB n "bool" = some b2 ∧ Q (.bl (b1 && !b2)) H
def spWhole : Sp := fun vs H Q _ => ∃ (i l : Int), vs = [.int i, .int l] ∧ Q (.bl (decide (l ≤ i))) H
def spIsList (K : PySem.W.Frag) : Sp := fun vs H Q _ => ∃ (v : V) (n : String) (b : Bool), vs = [v] ∧ TyX K H v (.type n) ∧ PySem.W.kitAny K (.type n) [.type "list", .type "tuple"] = some b ∧ ∀ H', Same H H' → Q (.bl b) H'
def spRowOk (K : PySem.W.Frag) : Sp := fun vs H Q _ => ∃ (a : Addr) (ns : List Int), vs = [.ref a] ∧ Sq K H a (ns.map V.int) ∧ ns.length ≤ 100000 ∧ ∀ H', Same H H' → Q (.bl true) H'
def spBudWord (K : PySem.W.Frag) : Sp := fun vs H Q _ => ∃ (a : Addr) (ns : List Int), vs = [.ref a] ∧ Sq K H a (ns.map V.int) ∧ 1 ≤ ns.length ∧ ns.length ≤ 40 ∧ (∀ x ∈ ns, 0 ≤ x ∧ x < 4) ∧ ∀ H', Same H H' → Q (.bl true) H'
/-- a pair (word, number) -/
def PairAt (K : PySem.W.Frag) (H : Hp) (v : V) (r : Rn) : Prop := ∃ a w, v = .ref a ∧ SqT K H a [.ref w, .int (r.2 : Int)] ∧ SqT K H w (r.1.map V.int)
abbrev Pairs (K : PySem.W.Frag) (H : Hp) : List V → List Rn → Prop := Paired (PairAt K H)
theorem PairAt.same {K : PySem.W.Frag} {H H' : Hp} {v : V} {r : Rn} (e : Same H H') (h : PairAt K H v r) : PairAt K H' v r := by
  obtain ⟨a, w, rfl, h1, h2⟩ := h
  exact ⟨a, w, rfl, Same.seqT e h1, Same.seqT e h2⟩
theorem Pairs.same {K : PySem.W.Frag} {H H' : Hp} {vs : List V} {rs : List Rn} (e : Same H H') (h : Pairs K H vs rs) : Pairs K H' vs rs := Paired.mapP h fun _ _ => PairAt.same e
/-- a stretch as it may be told -/
def StrOk (r : Rn) : Prop := 1 ≤ r.1.length ∧ r.1.length ≤ 40 ∧ (∀ x ∈ r.1, 0 ≤ x ∧ x < 4) ∧ r.2 ≤ 10 ^ 300
def spStretch (K : PySem.W.Frag) : Sp := fun vs H Q _ => ∃ (v : V) (r : Rn), vs = [v] ∧ PairAt K H v r ∧ StrOk r ∧ ∀ H', Same H H' → Q (.bl true) H'
def spNeed (K : PySem.W.Frag) : Sp := fun vs H Q _ => ∃ (a : Addr) (xs : List V) (rs : List Rn), vs = [.ref a] ∧ SqL K H a xs ∧ Pairs K H xs rs ∧ rs.length ≤ 20 ∧ (∀ r ∈ rs, StrOk r) ∧ ∀ H', Same H H' → Q .non H'

theorem ok_is_integer (T : Top K mg) : FnOk PW w K mg base CX0 1 (fa K "is_integer") (fdOf K (fa K "is_integer")) ["value"] (spInt K) := by
  refine T.F_is_integer.ok sc_is_integer (fun vs H Q E h => ?_) (fun cdv A outer s H vs Q E hr h => ?_)
  · obtain ⟨v, n, b1, b2, rfl, _ty, _h1, _h2, _k⟩ := h
    rfl
  · obtain ⟨v, n, b1, b2, rfl, ty, h1, h2, k⟩ := h
    have hu := hu_of hr
    refine ⟨_, (pss_one (ps_ret (pe_and (pe_callB call_isi (by rfl) T.z_isinstance (by decide +kernel) (pa_cons (pv 0) (pa_cons (pe_bltn (v := .ty "int") (by rfl) T.z_int (by decide +kernel) rfl) pa_nil))) (pe_one (pe_not (pe_callB call_isi (by rfl) T.z_isinstance (by decide +kernel) (pa_cons (pv 0) (pa_cons (pe_bltn (v := .ty "bool") (by rfl) T.z_bool (by decide +kernel) rfl) pa_nil)))))))), ?_⟩
    refine ⟨_, rfl, _, _, _, _, b1, rfl, .ty _, ty, kit_ty h1, b1, rfl, ?_⟩
    cases b1 with
    | false => exact k
    | true => exact ⟨_, rfl, _, _, _, _, b2, rfl, .ty _, ty, kit_ty h2, b2, rfl, k⟩
theorem ok_is_whole (T : Top K mg) : FnOk PW w K mg base CX0 2 (fa K "is_whole") (fdOf K (fa K "is_whole")) ["value", "least"] spWhole := by
  refine T.F_is_whole.ok sc_is_whole (fun vs H Q E h => ?_) (fun cdv A outer s H vs Q E hr h => ?_)
  · obtain ⟨i, l, rfl, _k⟩ := h
    rfl
  · obtain ⟨i, l, rfl, k⟩ := h
    have hu := hu_of hr
    refine ⟨_, (pss_one (ps_ret (pe_and (pe_call (ok_is_integer T) (hr.mono (by decide)) rfl T.g_is_integer T.F_is_integer.kp T.b_is_integer .nil pass0 (pa_cons (pv 0) pa_nil)) (pe_one (pe_cmpR op_ge (pv 0) (pv 1) (nomark _)))))), ?_⟩
    refine ⟨_, rfl, .int i, "int", true, false, rfl, .base (.int _), by decide +kernel, by decide +kernel, _, rfl, ?_⟩
    exact ⟨_, rfl, _, rfl, _, _, rfl, rfl, k⟩
theorem ok_is_list (T : Top K mg) : FnOk PW w K mg base CX0 1 (fa K "is_list") (fdOf K (fa K "is_list")) ["value"] (spIsList K) := by
  refine T.F_is_list.ok sc_is_list (fun vs H Q E h => ?_) (fun cdv A outer s H vs Q E hr h => ?_)
  · obtain ⟨v, n, b, rfl, _ty, _h1, _k⟩ := h
    rfl
  · obtain ⟨v, n, b, rfl, ty, h1, k⟩ := h
    have hu := hu_of hr
    refine ⟨_, (pss_one (ps_ret (pe_callB call_isiT (by rfl) T.z_isinstance (by decide +kernel) (pa_cons (pv 0) (pa_cons (pe_tup (pa_cons (pe_bltn (v := .ty "list") (by rfl) T.z_list (by decide +kernel) rfl) (pa_cons (pe_bltn (v := .ty "tuple") (by rfl) T.z_tuple (by decide +kernel) rfl) pa_nil))) pa_nil))))), ?_⟩
    refine ⟨_, rfl, (by show 2 ≤ sizeLine; decide), fun tp htp => ?_⟩
    have ty' := TyX.same (same_upd (o := .tup [.ty "list", .ty "tuple"]) htp) ty
    exact ⟨v, tp, _, _, _, b, rfl, upd_same, .cons (.ty _) (.cons (.ty _) .nil), ty', h1, k _ (same_upd htp)⟩
theorem ok_is_row (T : Top K mg) : FnOk PW w K mg base CX0 3 (fa K "is_row") (fdOf K (fa K "is_row")) ["value"] (spRowOk K) := by
  refine T.F_is_row.ok sc_is_row (fun vs H Q E h => ?_) (fun cdv A outer s H vs Q E hr h => ?_)
  · obtain ⟨a, ns, rfl, _hS, _hl, _k⟩ := h
    rfl
  · obtain ⟨a, ns, rfl, hS, hl, k⟩ := h
    have hu := hu_of hr
    refine ⟨_, (pss_one (ps_ret (pe_and (pe_call (ok_is_list T) (hr.mono (by decide)) rfl T.g_is_list T.F_is_list.kp T.b_is_list .nil pass0 (pa_cons (pv 0) pa_nil)) (pe_one (pe_callB (cr_all rfl) (by rfl) T.z_all (by decide +kernel) (pa_cons (pe_lc (own := [("entry", 1)]) (g := gName 1) (by rfl) sc_is_row.nd (pi_or (pi_list (pv 0)) (pi_tup (pv 0))) (blkOk_by (own := [("entry", 1)]) (N := ["value", "entry"]) (sc := (defScope s_is_row)) (by decide +kernel)) (fun _ _ _ _ _ => (pg_name (i := 1) sc_is_row.nd rfl (Or.inl rfl))) (fun _ _ _ _ _ => pts_nil) (fun _ _ _ _ _ => (pe_call (ok_is_integer T) (hr.mono (by decide)) rfl T.g_is_integer T.F_is_integer.kp T.b_is_integer .nil pass0 (pa_cons (pv 1) pa_nil)))) pa_nil)))))), ?_⟩
    obtain ⟨n, ty, hn⟩ := hS.ty
    refine ⟨_, rfl, .ref a, n, true, rfl, ty, hn, fun H1 sm => ⟨_, rfl, ?_⟩⟩
    replace hS := Same.sq sm hS
    rcases hS with hS | hS
    · refine .inl ⟨_, rfl, a, rfl, ⟨_, hS⟩, fun D hD => ?_⟩
      refine lc_list (K := K) (a := a) (xs := ns.map V.int) (fun i H2 => Same H1 H2 ∧ H2 D = some (.lst ((List.replicate i true).map V.bl)))
        ⟨same_upd hD, upd_same⟩ (fun i H2 _ ⟨s2, _⟩ => s2.seq hS) ?_ ?_
      · rintro j x H2 hj ⟨s2, hD2⟩
        obtain ⟨z, hz, rfl⟩ := map_at hj
        have hjl : j < ns.length := (List.getElem?_eq_some_iff.mp hz).1
        refine ⟨rfl, ?_⟩
        refine ⟨_, rfl, .int z, "int", true, false, rfl, .base (.int _), by decide +kernel, by decide +kernel, _, hD2, ?_, ?_, ?_⟩
        · rw [List.length_map, List.length_replicate, sizeLine_eq]; omega
        · intro b o e
          rw [upd_ne (ne_of_none e hD)]
          exact s2 b o e
        · rw [upd_same, List.replicate_succ', List.map_append]
          rfl
      · rintro H2 ⟨s2, hD2⟩
        refine ⟨D, _, rfl, SqL.of hD2, ?_⟩
        rw [all_rep]
        exact k _ (sm.trans s2)
    · refine .inr ⟨_, rfl, a, rfl, ⟨_, hS⟩, fun D hD => ?_⟩
      refine lc_tup (K := K) (a := a) (xs := ns.map V.int) (fun i H2 => Same H1 H2 ∧ H2 D = some (.lst ((List.replicate i true).map V.bl)))
        ⟨same_upd hD, upd_same⟩ (fun i H2 _ ⟨s2, _⟩ => Same.seqT s2 hS) ?_ ?_
      · rintro j x H2 hj ⟨s2, hD2⟩
        obtain ⟨z, hz, rfl⟩ := map_at hj
        have hjl : j < ns.length := (List.getElem?_eq_some_iff.mp hz).1
        refine ⟨rfl, ?_⟩
        refine ⟨_, rfl, .int z, "int", true, false, rfl, .base (.int _), by decide +kernel, by decide +kernel, _, hD2, ?_, ?_, ?_⟩
        · rw [List.length_map, List.length_replicate, sizeLine_eq]; omega
        · intro b o e
          rw [upd_ne (ne_of_none e hD)]
          exact s2 b o e
        · rw [upd_same, List.replicate_succ', List.map_append]
          rfl
      · rintro H2 ⟨s2, hD2⟩
        refine ⟨D, _, rfl, SqL.of hD2, ?_⟩
        rw [all_rep]
        exact k _ (sm.trans s2)
theorem ok_is_bud_word (T : Top K mg) : FnOk PW w K mg base CX0 4 (fa K "is_bud_word") (fdOf K (fa K "is_bud_word")) ["value"] (spBudWord K) := by
  refine T.F_is_bud_word.ok sc_is_bud_word (fun vs H Q E h => ?_) (fun cdv A outer s H vs Q E hr h => ?_)
  · obtain ⟨a, ns, rfl, _hS, _h1, _h2, _hx, _k⟩ := h
    rfl
  · obtain ⟨a, ns, rfl, hS, h1, h2, hx, k⟩ := h
    have hu := hu_of hr
    obtain ⟨t_MOST_WORD, c_MOST_WORD⟩ := T.c_MOST_WORD
    obtain ⟨t_MOST_BUDS, c_MOST_BUDS⟩ := T.c_MOST_BUDS
    refine ⟨_, (pss_cons (ps_if (PW.pt (pw_or (pt_not (pt_val (pe_call (ok_is_row T) (hr.mono (by decide)) rfl T.g_is_row T.F_is_row.kp T.b_is_row .nil pass0 (pa_cons (pv 0) pa_nil)))) (pw_or1 (pt_not (pt_chain op_le op_le pe_int (pe_callB call_len_seq (by rfl) T.z_len (by decide +kernel) (pa_cons (pv 0) pa_nil)) (pe_glob (v := .int 40) rfl c_MOST_WORD ⟨_, rfl⟩)))))) (pss_one (ps_ret pe_bl)) pss_nil)
      (pss_one (ps_ret (pe_callB (cr_all rfl) (by rfl) T.z_all (by decide +kernel) (pa_cons (pe_lc (own := [("number", 1)]) (g := gName 1) (by rfl) sc_is_bud_word.nd (pi_or (pi_list (pv 0)) (pi_tup (pv 0))) (blkOk_by (own := [("number", 1)]) (N := ["value", "number"]) (sc := (defScope s_is_bud_word)) (by decide +kernel)) (fun _ _ _ _ _ => (pg_name (i := 1) sc_is_bud_word.nd rfl (Or.inl rfl))) (fun _ _ _ _ _ => pts_nil) (fun _ _ _ _ _ => (pe_chain op_le op_lt pe_int (pv 1) (pe_glob (v := .int 4) rfl c_MOST_BUDS ⟨_, rfl⟩)))) pa_nil))))), ?_⟩
    refine ⟨_, rfl, a, ns, rfl, hS, by omega, fun H1 sm => ⟨_, rfl, iteF ?_⟩⟩
    replace hS := Same.sq sm hS
    have hl1 : ((ns.map V.int).length : Int) = ns.length := by rw [List.length_map]
    refine ⟨_, rfl, a, _, rfl, hS, _, _, rfl, rfl, _, rfl, ifT (decide_eq_true (by omega)) ⟨_, _, rfl, rfl, _, rfl, ifF (nd (by omega)) ?_⟩⟩
    rcases hS with hS | hS
    · refine .inl ⟨_, rfl, a, rfl, ⟨_, hS⟩, fun D hD => ?_⟩
      refine lc_list (K := K) (a := a) (xs := ns.map V.int) (fun i H2 => Same H1 H2 ∧ H2 D = some (.lst ((List.replicate i true).map V.bl)))
        ⟨same_upd hD, upd_same⟩ (fun i H2 _ ⟨s2, _⟩ => s2.seq hS) ?_ ?_
      · rintro j x H2 hj ⟨s2, hD2⟩
        obtain ⟨z, hz, rfl⟩ := map_at hj
        have hjl : j < ns.length := (List.getElem?_eq_some_iff.mp hz).1
        refine ⟨rfl, ?_⟩
        refine ⟨_, rfl, _, _, rfl, rfl, _, rfl, ifT (decide_eq_true (hx z (List.mem_of_getElem? hz)).1) ⟨_, _, rfl, rfl, _, hD2, ?_, ?_, ?_⟩⟩
        · rw [List.length_map, List.length_replicate, sizeLine_eq]; omega
        · intro b o e
          rw [upd_ne (ne_of_none e hD)]
          exact s2 b o e
        · rw [upd_same, List.replicate_succ', List.map_append]
          dsimp only
          rw [decide_eq_true (hx z (List.mem_of_getElem? hz)).2]
          rfl
      · rintro H2 ⟨s2, hD2⟩
        refine ⟨D, _, rfl, SqL.of hD2, ?_⟩
        rw [all_rep]
        exact k _ (sm.trans s2)
    · refine .inr ⟨_, rfl, a, rfl, ⟨_, hS⟩, fun D hD => ?_⟩
      refine lc_tup (K := K) (a := a) (xs := ns.map V.int) (fun i H2 => Same H1 H2 ∧ H2 D = some (.lst ((List.replicate i true).map V.bl)))
        ⟨same_upd hD, upd_same⟩ (fun i H2 _ ⟨s2, _⟩ => Same.seqT s2 hS) ?_ ?_
      · rintro j x H2 hj ⟨s2, hD2⟩
        obtain ⟨z, hz, rfl⟩ := map_at hj
        have hjl : j < ns.length := (List.getElem?_eq_some_iff.mp hz).1
        refine ⟨rfl, ?_⟩
        refine ⟨_, rfl, _, _, rfl, rfl, _, rfl, ifT (decide_eq_true (hx z (List.mem_of_getElem? hz)).1) ⟨_, _, rfl, rfl, _, hD2, ?_, ?_, ?_⟩⟩
        · rw [List.length_map, List.length_replicate, sizeLine_eq]; omega
        · intro b o e
          rw [upd_ne (ne_of_none e hD)]
          exact s2 b o e
        · rw [upd_same, List.replicate_succ', List.map_append]
          dsimp only
          rw [decide_eq_true (hx z (List.mem_of_getElem? hz)).2]
          rfl
      · rintro H2 ⟨s2, hD2⟩
        refine ⟨D, _, rfl, SqL.of hD2, ?_⟩
        rw [all_rep]
        exact k _ (sm.trans s2)
theorem ok_is_stretch (T : Top K mg) : FnOk PW w K mg base CX0 5 (fa K "is_stretch") (fdOf K (fa K "is_stretch")) ["value"] (spStretch K) := by
  refine T.F_is_stretch.ok sc_is_stretch (fun vs H Q E h => ?_) (fun cdv A outer s H vs Q E hr h => ?_)
  · obtain ⟨v, r, rfl, _hv, _ok, _k⟩ := h
    rfl
  · obtain ⟨v, r, rfl, hv, ok, k⟩ := h
    have hu := hu_of hr
    obtain ⟨t_MOST_TIMES, c_MOST_TIMES⟩ := T.c_MOST_TIMES
    refine ⟨_, (pss_cons (ps_if (PW.pt (pw_or (pt_not (pt_val (pe_call (ok_is_list T) (hr.mono (by decide)) rfl T.g_is_list T.F_is_list.kp T.b_is_list .nil pass0 (pa_cons (pv 0) pa_nil)))) (pw_or (pt_cmpR op_ne (pe_callB call_len_seq (by rfl) T.z_len (by decide +kernel) (pa_cons (pv 0) pa_nil)) pe_int (nomark _)) (pw_or1 (pt_not (pt_val (pe_call (ok_is_bud_word T) (hr.mono (by decide)) rfl T.g_is_bud_word T.F_is_bud_word.kp T.b_is_bud_word .nil pass0 (pa_cons (pe_ix ix_tup (pv 0) pe_int (fun _ _ => rfl)) pa_nil)))))))) (pss_one (ps_ret pe_bl)) pss_nil)
      (pss_one (ps_ret (pe_and (pe_call (ok_is_whole T) (hr.mono (by decide)) rfl T.g_is_whole T.F_is_whole.kp T.b_is_whole .nil pass0 (pa_cons (pe_ix ix_tup (pv 0) pe_int (fun _ _ => rfl)) (pa_cons pe_int pa_nil))) (pe_one (pe_cmpR op_le (pe_ix ix_tup (pv 0) pe_int (fun _ _ => rfl)) (pe_glob (v := .int (10 ^ 300)) rfl c_MOST_TIMES ⟨_, rfl⟩) (nomark _))))))), ?_⟩
    obtain ⟨a, w, rfl, ha, hw⟩ := hv
    obtain ⟨o1, o2, o3, o4⟩ := ok
    obtain ⟨n, ty, hn⟩ := Sq.ty (.inr ha)
    refine ⟨_, rfl, .ref a, n, true, rfl, ty, hn, fun H1 sm => ⟨_, rfl, iteF ?_⟩⟩
    replace ha := Same.seqT sm ha
    replace hw := Same.seqT sm hw
    refine ⟨_, rfl, a, _, rfl, .inr ha, rfl, _, rfl, iteNS rfl ?_⟩
    refine ⟨_, rfl, a, _, _, _, rfl, rfl, ha, atI_nat (j := 0) rfl, w, r.1, rfl, .inr hw, o1, o2, o3, fun H2 sm2 => ⟨_, rfl, iteF ?_⟩⟩
    replace ha := Same.seqT sm2 ha
    refine ⟨_, rfl, a, _, _, _, rfl, rfl, ha, atI_nat (j := 1) rfl, _, 0, rfl, _, rfl, ifT (decide_eq_true (by omega)) ?_⟩
    refine ⟨_, rfl, a, _, _, _, rfl, rfl, ha, atI_nat (j := 1) rfl, _, _, rfl, rfl, ?_⟩
    have e : decide (((r.2 : Nat) : Int) ≤ 10 ^ 300) = true := decide_eq_true (by exact_mod_cast o4)
    show Q (.bl (decide (((r.2 : Nat) : Int) ≤ 10 ^ 300))) H2
    rw [e]
    exact k _ (sm.trans sm2)
theorem ok_need_stretches (T : Top K mg) : FnOk PW w K mg base CX0 6 (fa K "need_stretches") (fdOf K (fa K "need_stretches")) ["value"] (spNeed K) := by
  refine T.F_need_stretches.ok sc_need_stretches (fun vs H Q E h => ?_) (fun cdv A outer s H vs Q E hr h => ?_)
  · obtain ⟨a, xs, rs, rfl, _hS, _hP, _hl, _ok, _k⟩ := h
    rfl
  · obtain ⟨a, xs, rs, rfl, hS, hP, hl, ok, k⟩ := h
    have hu := hu_of hr
    obtain ⟨t_MOST_STRETCHES, c_MOST_STRETCHES⟩ := T.c_MOST_STRETCHES
    refine ⟨_, (pss_cons (ps_if (PW.pt (pw_or (pt_not (pt_val (pe_call (ok_is_list T) (hr.mono (by decide)) rfl T.g_is_list T.F_is_list.kp T.b_is_list .nil pass0 (pa_cons (pv 0) pa_nil)))) (pw_or1 (pt_cmpR op_gt (pe_callB call_len_seq (by rfl) T.z_len (by decide +kernel) (pa_cons (pv 0) pa_nil)) (pe_glob (v := .int 20) rfl c_MOST_STRETCHES ⟨_, rfl⟩) (nomark _))))) (pss_one ps_never) pss_nil)
      (pss_one (ps_for PassesOwn.never rfl (pi_enum (by rfl) T.z_enumerate (pa_cons (pv 0) pa_nil)) (pg_tup (by rfl) (pgs_cons (pg_name (i := 1) sc_need_stretches.nd rfl (Or.inl rfl)) (pgs_cons (pg_name (i := 2) sc_need_stretches.nd rfl (Or.inl rfl)) pgs_nil))) (pss_one (ps_if (pt_not (pt_val (pe_call (ok_is_stretch T) (hr.mono (by decide)) rfl T.g_is_stretch T.F_is_stretch.kp T.b_is_stretch .nil pass0 (pa_cons (pv 2) pa_nil)))) (pss_one ps_never) pss_nil))))), ?_⟩
    obtain ⟨n, ty, hn⟩ := Sq.ty (.inl hS)
    refine ⟨_, rfl, .ref a, n, true, rfl, ty, hn, fun H1 sm => ⟨_, rfl, iteF ?_⟩⟩
    replace hS := sm.seq hS
    replace hP := Pairs.same sm hP
    have hle : xs.length = rs.length := Paired.length hP
    refine ⟨_, rfl, a, _, rfl, .inl hS, _, _, rfl, rfl, _, rfl, ifF (decide_eq_false (by omega)) ?_⟩
    refine ⟨_, rfl, a, xs, rfl, hS, for_enum (K := K) (a := a) (xs := xs) (fun i σ H2 => Same H1 H2 ∧ ∃ o1 o2, σ = [some (.ref a), o1, o2]) ⟨Same.refl _, _, _, rfl⟩ (fun i σ H2 _ ⟨s2, _⟩ => s2.seq hS) ?_ ?_⟩
    · rintro i x T0 σ H2 hi ⟨s2, o1, o2, rfl⟩ hT
      obtain ⟨r, hr1, hp⟩ := paired_at hP hi
      refine ⟨T0, _, rfl, SqT.of upd_same, rfl, _, _, rfl, _, _, rfl, rfl, ?_⟩
      have s3 := s2.trans (same_upd (o := .tup [.int (i : Nat), x]) hT)
      refine ⟨_, rfl, x, r, rfl, hp.same s3, ok r (List.mem_of_getElem? hr1), fun H3 sm3 => ⟨_, rfl, iteF ?_⟩⟩
      exact ⟨s3.trans sm3, _, _, rfl⟩
    · rintro σ H2 ⟨s2, o1, o2, rfl⟩
      exact k _ (sm.trans s2)
end
end R4
set_option Elab.async false
set_option linter.all false
set_option maxRecDepth 100000
set_option maxHeartbeats 4000000
namespace R4
open PySem L2 PySem.GW
open RM (Rn)
section
variable {w : World} {K : PySem.W.Frag} {mg : Str → Option Value} {base : Heap}
theorem take_at {α : Type} {xs : List α} {i : Nat} {x : α} (h : xs[i]? = some x) : xs.take (i + 1) = xs.take i ++ [x] := by rw [List.take_add_one, h]; rfl
theorem drop_at {α : Type} {xs : List α} {i : Nat} {x : α} (h : xs[i]? = some x) : xs.drop i = x :: xs.drop (i + 1) := by
  obtain ⟨hl, rfl⟩ := List.getElem?_eq_some_iff.mp h
  exact List.drop_eq_getElem_cons hl
theorem sum_cast : ∀ rs : List Rn, ((rs.map fun r => ((r.2 : Nat) : Int)).sum) = ((RM.ext rs : Nat) : Int)
  | [] => rfl
  | r :: rs => by rw [RM.ext_cons, List.map_cons, List.sum_cons, sum_cast rs]; push_cast; rfl
theorem Paired.append {α β : Type} {R : α → β → Prop} : ∀ {xs : List α} {ys : List β} {x : α} {y : β}, Paired R xs ys → R x y → Paired R (xs ++ [x]) (ys ++ [y])
  | _, _, _, _, .nil, h => .cons h .nil
  | _, _, _, _, .cons r t, h => .cons r (Paired.append t h)
/-- runs: a list of pairs (word, number) -/
def RunsAt (K : PySem.W.Frag) (H : Hp) (a : Addr) (rs : List Rn) : Prop := ∃ xs, SqL K H a xs ∧ Pairs K H xs rs
theorem RunsAt.same {K : PySem.W.Frag} {H H' : Hp} {a : Addr} {rs : List Rn} (e : Same H H') (h : RunsAt K H a rs) : RunsAt K H' a rs := by
  obtain ⟨xs, h1, h2⟩ := h
  exact ⟨xs, e.seq h1, h2.same e⟩
def spExt (K : PySem.W.Frag) : Sp := fun vs H Q _ => ∃ (a : Addr) (rs : List Rn), vs = [.ref a] ∧ RunsAt K H a rs ∧ rs.length ≤ 100000 ∧ ∀ H', Same H H' → Q (.int ((RM.ext rs : Nat) : Int)) H'

theorem ok_extent_of (T : Top K mg) : FnOk PW w K mg base CX0 1 (fa K "extent_of") (fdOf K (fa K "extent_of")) ["runs"] (spExt K) := by
  refine T.F_extent_of.ok sc_extent_of (fun vs H Q E h => ?_) (fun cdv A outer s H vs Q E hr h => ?_)
  · obtain ⟨a, rs, rfl, _hR, _hl, _k⟩ := h
    rfl
  · obtain ⟨a, rs, rfl, hR, hl, k⟩ := h
    have hu := hu_of hr
    refine ⟨_, (pss_one (ps_ret (pe_callB (cr_sum rfl) (by rfl) T.z_sum (by decide +kernel) (pa_cons (pe_lc (own := [("word", 1), ("length", 2)]) (g := gTup K 2 (gCons (gName 1) (gCons (gName 2) gNil))) (by rfl) sc_extent_of.nd (pi_list (pv 0)) (blkOk_by (own := [("word", 1), ("length", 2)]) (N := ["runs", "word", "length"]) (sc := (defScope s_extent_of)) (by decide +kernel)) (fun _ _ _ _ _ => (pg_tup (by rfl) (pgs_cons (pg_name (i := 1) sc_extent_of.nd rfl (Or.inl rfl)) (pgs_cons (pg_name (i := 2) sc_extent_of.nd rfl (Or.inl rfl)) pgs_nil)))) (fun _ _ _ _ _ => pts_nil) (fun _ _ _ _ _ => (pv 2))) pa_nil)))), ?_⟩
    obtain ⟨xs, hx, hp⟩ := hR
    have hle : xs.length = rs.length := Paired.length hp
    refine ⟨_, rfl, a, rfl, ⟨_, hx⟩, fun D hD => ?_⟩
    refine lc_list (K := K) (a := a) (xs := xs) (fun i H2 => Same H H2 ∧ H2 D = some (.lst (((rs.take i).map fun r => ((r.2 : Nat) : Int)).map V.int))) ⟨same_upd hD, upd_same⟩ (fun i H2 _ ⟨s2, _⟩ => s2.seq hx) ?_ ?_
    · rintro i x H2 hi ⟨s2, hD2⟩
      obtain ⟨r, hr1, q⟩ := paired_at hp hi
      obtain ⟨p, w, rfl, q1, q2⟩ := q.same s2
      have hil : i < rs.length := (List.getElem?_eq_some_iff.mp hr1).1
      refine ⟨p, _, rfl, q1, rfl, _, _, rfl, _, _, rfl, rfl, rfl, _, rfl, _, hD2, ?_, ?_, ?_⟩
      · rw [List.length_map, List.length_map, List.length_take, sizeLine_eq]; omega
      · intro b o e
        rw [upd_ne (ne_of_none e hD)]
        exact s2 b o e
      · rw [upd_same, take_at hr1, List.map_append, List.map_append]
        rfl
    · rintro H2 ⟨s2, hD2⟩
      refine ⟨D, _, rfl, SqL.of hD2, ?_⟩
      rw [hle, List.take_length, sum_cast]
      exact k _ s2

theorem sqT_upd {K : PySem.W.Frag} {H : Hp} {a D : Addr} {xs us : List V} {o : HO} (hD : H D = some (.lst us)) (h : SqT K H a xs) : SqT K (upd H D o) a xs := by
  rcases h with (h | ⟨o2, h⟩) | h
  · exact .inl (.inl (by rw [upd_ne (by rintro rfl; rw [hD] at h; cases h)]; exact h))
  · exact .inl (.inr ⟨o2, by rw [upd_ne (by rintro rfl; rw [hD] at h; cases h)]; exact h⟩)
  · exact .inr h
theorem PairAt.upd {K : PySem.W.Frag} {H : Hp} {v : V} {r : Rn} {D : Addr} {us : List V} {o : HO} (hD : H D = some (.lst us)) (h : PairAt K H v r) : PairAt K (L2.upd H D o) v r := by
  obtain ⟨a, w, rfl, h1, h2⟩ := h
  exact ⟨a, w, rfl, sqT_upd hD h1, sqT_upd hD h2⟩
theorem Pairs.upd {K : PySem.W.Frag} {H : Hp} {vs : List V} {rs : List Rn} {D : Addr} {us : List V} {o : HO} (hD : H D = some (.lst us)) (h : Pairs K H vs rs) : Pairs K (L2.upd H D o) vs rs := Paired.mapP h fun _ _ => PairAt.upd hD
theorem same_at {H H2 : Hp} {D : Addr} {o : HO} (hD : H D = none) (s : Same H H2) : Same H (upd H2 D o) := fun b u e => by rw [upd_ne (ne_of_none e hD)]; exact s b u e
theorem slA_drop {K : PySem.W.Frag} {H : Hp} {a : Addr} {xs : List V} {k : Nat} {Q : VK} (h : SqT K H a xs) (q : ∀ p H', Same H H' → SqT K H' p (xs.drop k) → Q (.ref p) H') : rSlA K (.ref a) (some (k : Int)) none H Q := by
  refine ⟨a, xs, rfl, h, fun hw => q a H (Same.refl _) ?_, fun _ p hp => q p _ (same_upd hp) (SqT.of ?_)⟩
  · have h1 := hw.1
    rw [HT.sIx_nat] at h1
    have e : xs.drop k = xs := by
      rcases Nat.min_eq_zero_iff.mp h1 with e | e
      · rw [e]; rfl
      · rw [List.eq_nil_of_length_eq_zero e]; simp
    rw [e]; exact h
  · rw [upd_same]
    unfold cutV
    rw [HT.sIx_nat, HT.sIx_none]
    congr 2
    by_cases hk : k ≤ xs.length
    · rw [Nat.min_eq_left hk, List.take_of_length_le (by rw [List.length_drop]; exact Nat.le_refl _)]
    · rw [Nat.min_eq_right (by omega), List.drop_length, List.drop_eq_nil_of_le (by omega)]; simp
theorem slA_take {K : PySem.W.Frag} {H : Hp} {a : Addr} {xs : List V} {k : Nat} {Q : VK} (h : SqT K H a xs) (q : ∀ p H', Same H H' → SqT K H' p (xs.take k) → Q (.ref p) H') : rSlA K (.ref a) none (some (k : Int)) H Q := by
  refine ⟨a, xs, rfl, h, fun hw => q a H (Same.refl _) ?_, fun _ p hp => q p _ (same_upd hp) (SqT.of ?_)⟩
  · have h1 := hw.2
    rw [HT.sIx_nat] at h1
    rw [List.take_of_length_le (by omega)]; exact h
  · rw [upd_same]
    unfold cutV
    rw [HT.sIx_nat, HT.sIx_none, List.drop_zero, Nat.sub_zero]
    congr 2
    by_cases hk : k ≤ xs.length
    · rw [Nat.min_eq_left hk]
    · rw [Nat.min_eq_right (by omega), List.take_length, List.take_of_length_le (by omega)]
theorem catA {K : PySem.W.Frag} {H : Hp} {a b : Addr} {xs ys : List V} {Q : VK} (h1 : SqT K H a xs) (h2 : SqT K H b ys) (hl : xs.length + ys.length ≤ sizeLine) (q : ∀ p H', Same H H' → SqT K H' p (xs ++ ys) → Q (.ref p) H') : rCatA K (.ref a) (.ref b) H Q := by
  refine ⟨a, b, xs, ys, rfl, rfl, h1, h2, hl, fun e => q b H (Same.refl _) (by rw [e]; exact h2), fun _ e => q a H (Same.refl _) (by rw [e, List.append_nil]; exact h1), fun _ _ p hp => q p _ (same_upd hp) (SqT.of upd_same)⟩
/-- runs that can be handled -/
def Fit (rs : List Rn) : Prop := rs.length ≤ 100000 ∧ ∀ r ∈ rs, r.1 ≠ [] ∧ r.1.length ≤ 100000
def spCut (K : PySem.W.Frag) : Sp := fun vs H Q _ => ∃ (a : Addr) (rs : List Rn) (k : Nat), vs = [.ref a, .int (k : Int)] ∧ RunsAt K H a rs ∧ Fit rs ∧ ∀ p H', Same H H' → RunsAt K H' p (RM.cutF rs k) → Q (.ref p) H'
theorem min_cast (a b : Nat) : (if (b : Int) < (a : Int) then (b : Int) else (a : Int)) = ((min a b : Nat) : Int) := by
  by_cases h : b < a
  · rw [if_pos (by omega), Nat.min_eq_right (by omega)]
  · rw [if_neg (by omega), Nat.min_eq_left (by omega)]
theorem tcI {v : V} {σ : St} {H : Hp} {Q : VK} (h : Q v H) : tC v σ H Q := h
theorem noPart {σ : St} {H : Hp} {Q : Option Int → Hp → Prop} (h : Q none H) : tNoPart σ H Q := h
theorem i0 {f : Int → Int → V} {i j : Int} {v : V} {H : Hp} {Q : VK} (e : f i j = v) (q : Q v H) : rI0 f (.int i) (.int j) H Q := ⟨i, j, rfl, rfl, by rw [e]; exact q⟩
theorem iC {c : Int → Int → Prop} {f : Int → Int → V} {i j : Int} {v : V} {H : Hp} {Q : VK} (h : c i j) (e : f i j = v) (q : Q v H) : rI c f (.int i) (.int j) H Q := ⟨i, j, rfl, rfl, h, by rw [e]; exact q⟩
theorem mod_nat (a b : Nat) : ((a : Int) % (b : Int)) = ((a % b : Nat) : Int) := by push_cast; rfl

theorem ok_cut_front (T : Top K mg) : FnOk PW w K mg base CX0 1 (fa K "cut_front") (fdOf K (fa K "cut_front")) ["runs", "many"] (spCut K) := by
  refine T.F_cut_front.ok sc_cut_front (fun vs H Q E h => ?_) (fun cdv A outer s H vs Q E hr h => ?_)
  · obtain ⟨a, rs, k0, rfl, _hR, _hf, _k⟩ := h
    rfl
  · obtain ⟨a, rs, k0, rfl, hR, hf, k⟩ := h
    have hu := hu_of hr
    refine ⟨_, (pss_cons (ps_set (i := 2) sc_cut_front.nd rfl (Or.inl rfl) (pe_lst pa_nil))
      (pss_cons (ps_set (i := 3) sc_cut_front.nd rfl (Or.inl rfl) (pv 1))
      (pss_cons (ps_for PassesOwn.never rfl (pi_list (pv 0)) (pg_tup (by rfl) (pgs_cons (pg_name (i := 4) sc_cut_front.nd rfl (Or.inl rfl)) (pgs_cons (pg_name (i := 5) sc_cut_front.nd rfl (Or.inl rfl)) pgs_nil))) (pss_cons (ps_set (i := 6) sc_cut_front.nd rfl (Or.inl rfl) (pe_callB (call_min2 rfl) (by rfl) T.z_min (by decide +kernel) (pa_cons (pv 3) (pa_cons (pv 5) pa_nil))))
      (pss_cons (ps_set (i := 3) sc_cut_front.nd rfl (Or.inl rfl) (pe_op op_sub (pv 3) (pv 6)))
      (pss_one (ps_if (pt_cmpR op_lt (pv 6) (pv 5) (nomark _)) (pss_cons (ps_set (i := 7) sc_cut_front.nd rfl (Or.inl rfl) (pe_op op_mod (pv 6) (pe_callB call_len_seq (by rfl) T.z_len (by decide +kernel) (pa_cons (pv 4) pa_nil))))
      (pss_one (ps_expr (pe_bm PySem.F.plainAttrs_list PySem.F.slot_list_append PySem.F.type_list_append mt_append (pv 2) (pa_cons (pe_tup (pa_cons (pe_op op_catA (pe_slice sl_tupA (pv 4) (po_some (pv 7)) po_none) (pe_slice sl_tupA (pv 4) po_none (po_some (pv 7)))) (pa_cons (pe_op op_sub (pv 5) (pv 6)) pa_nil))) pa_nil))))) pss_nil)))))
      (pss_one (ps_ret (pv 2)))))), ?_⟩
    obtain ⟨xs, hx, hp⟩ := hR
    have hle : xs.length = rs.length := Paired.length hp
    obtain ⟨hf1, hf2⟩ := hf
    refine ⟨Nat.zero_le _, fun D hD => ⟨_, rfl, ?_⟩⟩
    refine ⟨_, rfl, a, rfl, ⟨xs, (same_upd hD).seq hx⟩, for_list (K := K) (a := a) (xs := xs) (fun i σ H2 => Same H H2 ∧ ∃ (left : Nat) (vs : List V) (acc : List Rn) (o4 o5 o6 o7 : Option V), σ = [some (.ref a), some (.int (k0 : Int)), some (.ref D), some (.int (left : Int)), o4, o5, o6, o7] ∧ H2 D = some (.lst vs) ∧ Pairs K H2 vs acc ∧ acc.length ≤ i ∧ RM.cutF rs k0 = acc ++ RM.cutF (rs.drop i) left) ⟨same_upd hD, k0, [], [], _, _, _, _, rfl, upd_same, .nil, Nat.le_refl _, rfl⟩ (fun i σ H2 _ ⟨s2, _⟩ => s2.seq hx) ?_ ?_⟩
    · rintro i x σ H2 hi ⟨s2, left, vs, acc, o4, o5, o6, o7, rfl, hD2, hacc, hal, he⟩
      obtain ⟨r, hr1, q⟩ := paired_at hp hi
      obtain ⟨p, wd, rfl, q1, q2⟩ := q.same s2
      have hil : i < rs.length := (List.getElem?_eq_some_iff.mp hr1).1
      obtain ⟨hw1, hw2⟩ := hf2 r (List.mem_of_getElem? hr1)
      have hvl : vs.length = acc.length := Paired.length hacc
      refine ⟨p, _, rfl, q1, rfl, _, _, rfl, _, _, rfl, rfl, ?_⟩
      have he2 : RM.cutF rs k0 = acc ++ ((if min left r.2 < r.2 then [(r.1.drop (min left r.2 % r.1.length) ++ r.1.take (min left r.2 % r.1.length), r.2 - min left r.2)] else []) ++ RM.cutF (rs.drop (i + 1)) (left - min left r.2)) := by rw [he, drop_at hr1]; rfl
      have hpos : 0 < r.1.length := List.length_pos_iff.mpr hw1
      refine ⟨_, rfl, _, rfl, _, _, rfl, ?_⟩
      rw [min_cast left r.2]
      have hsub : ((left : Int) - ((min left r.2 : Nat) : Int)) = ((left - min left r.2 : Nat) : Int) := by omega
      have hsub2 : ((r.2 : Int) - ((min left r.2 : Nat) : Int)) = ((r.2 - min left r.2 : Nat) : Int) := by omega
      refine ⟨_, rfl, _, rfl, i0 (congrArg V.int hsub) ⟨_, rfl, _, rfl, i0 rfl ⟨_, rfl, ?_⟩⟩⟩
      by_cases hc : min left r.2 < r.2
      · rw [if_pos hc, ← List.append_assoc] at he2
        refine ifT (decide_eq_true (by omega)) ⟨_, rfl, _, rfl, wd, _, rfl, .inr q2, iC (by rw [List.length_map]; omega) (congrArg V.int ((congrArg (fun n : Nat => ((min left r.2 : Nat) : Int) % (n : Int)) (List.length_map _)).trans (mod_nat _ _))) ?_⟩
        refine ⟨_, rfl, .inl ⟨rfl, _, SqL.of hD2⟩, _, rfl, _, rfl, _, rfl, noPart ?_⟩
        refine slA_drop q2 fun p1 H3 s3 t1 => ?_
        refine ⟨_, rfl, noPart ⟨_, rfl, _, rfl, ?_⟩⟩
        refine slA_take (Same.seqT s3 q2) fun p2 H4 s4 t2 => ?_
        refine catA (Same.seqT s4 t1) t2 (by rw [List.length_drop, List.length_take, List.length_map, sizeLine_eq]; omega) fun p3 H5 s5 t3 => ?_
        refine ⟨_, rfl, _, rfl, i0 (congrArg V.int hsub2) ?_⟩
        refine ⟨Nat.le_of_ble_eq_true rfl, fun p4 h4 => ?_⟩
        have s6 : Same H2 (upd H5 p4 (.tup [.ref p3, .int ((r.2 - min left r.2 : Nat) : Int)])) := ((s3.trans s4).trans s5).trans (same_upd h4)
        refine ⟨D, _, _, rfl, rfl, s6 _ _ hD2, (by rw [sizeLine_eq]; omega), ?_⟩
        refine ⟨same_at hD (s2.trans s6), _, _, acc ++ [(r.1.drop (min left r.2 % r.1.length) ++ r.1.take (min left r.2 % r.1.length), r.2 - min left r.2)], _, _, _, _, rfl, upd_same, ?_, (by rw [List.length_append]; simp; omega), he2⟩
        refine Pairs.upd (s6 _ _ hD2) (Paired.append (Pairs.same s6 hacc) ⟨p4, p3, rfl, SqT.of upd_same, ?_⟩)
        have t4 := Same.seqT (same_upd (o := .tup [.ref p3, .int ((r.2 - min left r.2 : Nat) : Int)]) h4) t3
        rw [List.map_append, List.map_drop, List.map_take]
        exact t4
      · rw [if_neg hc] at he2
        refine ifF (decide_eq_false (by omega)) ?_
        exact ⟨s2, _, vs, acc, _, _, _, _, rfl, hD2, hacc, by omega, he2⟩
    · rintro σ H2 ⟨s2, left, vs, acc, o4, o5, o6, o7, rfl, hD2, hacc, hal, he⟩
      rw [hle, List.drop_length] at he
      refine ⟨_, rfl, k D H2 s2 ⟨vs, SqL.of hD2, ?_⟩⟩
      rw [he]
      show Pairs K H2 vs (acc ++ [])
      rw [List.append_nil]
      exact hacc
end
end R4
set_option Elab.async false
set_option linter.all false
set_option maxRecDepth 100000
set_option maxHeartbeats 4000000
namespace R4
open PySem L2 PySem.GW
open RM (Rn)
section
variable {w : World} {K : PySem.W.Frag} {mg : Str → Option Value} {base : Heap}

/-- an instance of Row -/
def RowAt (K : PySem.W.Frag) (H : Hp) (p : Addr) (ss : List Rn) : Prop := ∃ dx T vs, H p = some (.ins (cR K) dx [("stretches", .ref T)]) ∧ SqT K H T vs ∧ Pairs K H vs ss
theorem RowAt.same {K : PySem.W.Frag} {H H' : Hp} {p : Addr} {ss : List Rn} (e : Same H H') (h : RowAt K H p ss) : RowAt K H' p ss := by
  obtain ⟨dx, T, vs, h1, h2, h3⟩ := h
  exact ⟨dx, T, vs, e _ _ h1, Same.seqT e h2, h3.same e⟩
theorem runs_one (r : Rn) : RM.runs [r] = if 0 < r.2 then [(r.1, r.1.length * r.2)] else [] := by
  unfold RM.runs
  by_cases h : 0 < r.2 <;> simp [h]
theorem runs_len (ss : List Rn) : (RM.runs ss).length ≤ ss.length := by
  unfold RM.runs
  rw [List.length_map]
  exact List.length_filter_le _ _
theorem Fit.runs {ss : List Rn} (h : Fit ss) : Fit (RM.runs ss) := by
  refine ⟨Nat.le_trans (runs_len ss) h.1, fun r hr => ?_⟩
  unfold RM.runs at hr
  obtain ⟨q, hq, rfl⟩ := List.mem_map.mp hr
  exact h.2 q (List.mem_filter.mp hq).1
abbrev rLen (K : PySem.W.Frag) : List V → Hp → VK → Prop := fun xs H Q => ∃ p ys, xs = [V.ref p] ∧ (SqL K H p ys ∨ SqT K H p ys) ∧ Q (.int (ys.length : Int)) H
abbrev rMul : R2 := rI CMul fun i j => .int (i * j)
theorem len_cast (w : List Int) : V.int ((w.map V.int).length : Int) = .int (w.length : Int) := by rw [List.length_map]
/-- runs in a list that is held -/
def RunsL (K : PySem.W.Frag) (H : Hp) (a : Addr) (rs : List Rn) : Prop := ∃ vs, H a = some (.lst vs) ∧ Pairs K H vs rs
theorem RunsL.same {K : PySem.W.Frag} {H H' : Hp} {a : Addr} {rs : List Rn} (e : Same H H') (h : RunsL K H a rs) : RunsL K H' a rs := by
  obtain ⟨vs, h1, h2⟩ := h
  exact ⟨vs, e _ _ h1, h2.same e⟩
def spRuns (K : PySem.W.Frag) : Sp := fun vs H Q _ => ∃ (p : Addr) (ss : List Rn), vs = [.ref p] ∧ RowAt K H p ss ∧ Fit ss ∧ ∀ a H', Same H H' → (H a = none ∧ RunsL K H' a (RM.runs ss)) → RunsAt K H' a (RM.runs ss) → Q (.ref a) H'
def spTotal (K : PySem.W.Frag) : Sp := fun vs H Q _ => ∃ (p : Addr) (ss : List Rn), vs = [.ref p] ∧ RowAt K H p ss ∧ Fit ss ∧ ∀ H', Same H H' → Q (.int ((RM.flatS ss).length : Int)) H'

theorem ok_Row_runs (T : Top K mg) : FnOk PW w K mg base CX0 1 (me K "runs") (fdOf K (me K "runs")) ["self"] (spRuns K) := by
  refine T.F_Row_runs.ok sc_Row_runs (fun vs H Q E h => ?_) (fun cdv A outer s H vs Q E hr h => ?_)
  · obtain ⟨p, ss, rfl, _hR, _hf, _k⟩ := h
    rfl
  · obtain ⟨p, ss, rfl, hR, hf, k⟩ := h
    have hu := hu_of hr
    refine ⟨_, (pss_one (ps_ret (pe_lc (own := [("word", 1), ("times", 2)]) (te := tTup (tCons (tVar 1) (tCons (tOp rMul (tCB (rLen K) (tCons (tVar 1) tNil)) (tVar 2)) tNil))) (g := gTup K 2 (gCons (gName 1) (gCons (gName 2) gNil))) (by rfl) sc_Row_runs.nd (pi_tup (pe_fld (pv 0) rfl)) (blkOk_by (own := [("word", 1), ("times", 2)]) (N := ["self", "word", "times"]) (sc := (defScope s_Row_runs)) (by decide +kernel)) (fun _ _ _ _ _ => (pg_tup (by rfl) (pgs_cons (pg_name (i := 1) sc_Row_runs.nd rfl (Or.inl rfl)) (pgs_cons (pg_name (i := 2) sc_Row_runs.nd rfl (Or.inl rfl)) pgs_nil)))) (fun _ _ _ _ _ => (pts_one (pt_cmpR op_gt (pv 2) pe_int (nomark _)))) (fun _ _ _ _ _ => (pe_tup (pa_cons (pv 1) (pa_cons (pe_op op_mul (pe_callB call_len_seq (by rfl) T.z_len (by decide +kernel) (pa_cons (pv 1) pa_nil)) (pv 2)) pa_nil))))))), ?_⟩
    obtain ⟨dx, T0, xs, h1, h2, hp⟩ := hR
    have hle : xs.length = ss.length := Paired.length hp
    obtain ⟨hf1, hf2⟩ := hf
    refine ⟨_, rfl, p, _, dx, _, _, rfl, h1, T.cl, T.nS, rfl, T0, rfl, ⟨_, h2⟩, fun D hD => ?_⟩
    refine lc_tup (K := K) (a := T0) (xs := xs) (fun i H2 => Same H H2 ∧ ∃ vs, H2 D = some (.lst vs) ∧ Pairs K H2 vs (RM.runs (ss.take i))) ⟨same_upd hD, _, upd_same, .nil⟩ (fun i H2 _ ⟨s2, _⟩ => Same.seqT s2 h2) ?_ ?_
    · rintro i x H2 hi ⟨s2, vs, hD2, hacc⟩
      obtain ⟨r, hr1, q⟩ := paired_at hp hi
      obtain ⟨q0, wd, rfl, q1, q2⟩ := q.same s2
      have hil : i < ss.length := (List.getElem?_eq_some_iff.mp hr1).1
      obtain ⟨hw1, hw2⟩ := hf2 r (List.mem_of_getElem? hr1)
      have hvl : vs.length = (RM.runs (ss.take i)).length := Paired.length hacc
      have hrl := runs_len (ss.take i)
      rw [List.length_take] at hrl
      have hst : RM.runs (ss.take (i + 1)) = RM.runs (ss.take i) ++ RM.runs [r] := by rw [take_at hr1, RM.runs_append]
      rw [runs_one] at hst
      refine ⟨q0, _, rfl, q1, rfl, _, _, rfl, _, _, rfl, rfl, rfl, ?_⟩
      refine ⟨_, rfl, _, _, rfl, rfl, _, rfl, ?_⟩
      by_cases hc : 0 < r.2
      · rw [if_pos hc] at hst
        refine ifT (decide_eq_true (by omega)) ⟨_, rfl, _, rfl, wd, _, rfl, .inr q2, _, rfl, ?_⟩
        rw [List.length_map]
        refine iC (.inl ⟨by omega, by omega⟩) (v := .int ((r.1.length * r.2 : Nat) : Int)) (by push_cast; rfl) ⟨Nat.le_of_ble_eq_true rfl, fun p4 h4 => ?_⟩
        have s6 := same_upd (o := .tup [.ref wd, .int ((r.1.length * r.2 : Nat) : Int)]) h4
        refine ⟨_, s6 _ _ hD2, (by rw [sizeLine_eq]; omega), same_at hD (s2.trans s6), _, upd_same, ?_⟩
        rw [hst]
        exact Pairs.upd (s6 _ _ hD2) (Paired.append (Pairs.same s6 hacc) ⟨p4, wd, rfl, SqT.of upd_same, Same.seqT s6 q2⟩)
      · rw [if_neg hc, List.append_nil] at hst
        refine ifF (decide_eq_false (by omega)) ⟨s2, vs, hD2, ?_⟩
        rw [hst]
        exact hacc
    · rintro H2 ⟨s2, vs, hD2, hacc⟩
      rw [hle, List.take_length] at hacc
      exact k D H2 s2 ⟨hD, vs, hD2, hacc⟩ ⟨vs, SqL.of hD2, hacc⟩
theorem ok_Row_total (T : Top K mg) : FnOk PW w K mg base CX0 2 (me K "total") (fdOf K (me K "total")) ["self"] (spTotal K) := by
  refine T.F_Row_total.ok sc_Row_total (fun vs H Q E h => ?_) (fun cdv A outer s H vs Q E hr h => ?_)
  · obtain ⟨p, ss, rfl, _hR, _hf, _k⟩ := h
    rfl
  · obtain ⟨p, ss, rfl, hR, hf, k⟩ := h
    have hu := hu_of hr
    refine ⟨_, (pss_one (ps_ret (pe_call (ok_extent_of T) (hr.mono (by decide)) rfl T.g_extent_of T.F_extent_of.kp T.b_extent_of .nil pass0 (pa_cons (pe_meth0 (pv 0) T.cl T.m_runs (ok_Row_runs T) (hr.mono (by decide)) T.b_Row_runs .nil pass0) pa_nil)))), ?_⟩
    obtain ⟨dx, T0, xs, h1, h2, hp⟩ := id hR
    refine ⟨_, rfl, p, dx, _, rfl, h1, rfl, p, ss, rfl, hR, hf, fun a H1 s1 _ hr => ⟨a, _, rfl, hr, hf.runs.1, fun H2 s2 => ?_⟩⟩
    rw [← RM.flat_length]
    exact k _ (s1.trans s2)
end
end R4
set_option Elab.async false
set_option linter.all false
set_option maxRecDepth 100000
set_option maxHeartbeats 4000000
namespace R4
open PySem L2 PySem.GW
open RM (Rn)
section
variable {w : World} {K : PySem.W.Frag} {mg : Str → Option Value} {base : Heap}

theorem init_kb (T : Top K mg) : ∃ g : List Value → List Value → List Value, KBn K (fdOf K (me K "__init__")) ["self", "stretches", "checked"] 2 ["checked"] g (fun vs zs => vs ++ zs) := by
  obtain ⟨e0, F⟩ := T.D_init
  obtain ⟨its, mv, h⟩ := F.kbinds (ps := ["self", "stretches", "checked"]) 2 ["checked"] [] (fun us _ _ ws => us ++ ws) (by simp) (by simp) (by simp) (fun r1 _ _ r4 => r1.append r4) (by
    intro T1 D1 doc pm an cdv ct us its mv ws h1 h2 h3 h4
    match us, its, mv, ws, h1, h2, h3, h4 with
    | [_, _], [_], [], [_], _, _, _, _ => exact ⟨_, rfl, rfl⟩)
  exact ⟨_, h⟩
theorem init_b (T : Top K mg) : ∃ ds, Vals [.bl true] ds ∧ Binds K (fdOf K (me K "__init__")) ["self", "stretches", "checked"] ds := by
  obtain ⟨e0, F⟩ := T.D_init
  exact F.binds (ps := ["self", "stretches", "checked"]) 2 1 (by simp) rfl (by
    intro T1 D1 doc pm an cdv ct us its ks h1 h2 h3
    match us, its, ks, h1, h2, h3 with
    | [_, _], [_], [_], _, _, _ => exact ⟨_, rfl, _, _, _, _, _, _, rfl, rfl, rfl⟩) (by simp)
theorem plain_b (T : Top K mg) : ∃ ds, Vals [.int 2000] ds ∧ Binds K (fdOf K (me K "plain")) ["self", "most"] ds := by
  exact T.D_plain.binds0 (ps := ["self", "most"]) 1 (by simp) rfl (by
    intro D1 doc pm an cdv ct us ks h1 h2
    match us, ks, h1, h2 with
    | [_], [_], _, _ => exact ⟨_, _, _, _, _, _, rfl, rfl, rfl⟩)
theorem plain_kb (T : Top K mg) : ∃ g : List Value → List Value → List Value, KBn K (fdOf K (me K "plain")) ["self", "most"] 1 ["most"] g (fun vs zs => vs ++ zs) := by
  obtain ⟨mv, h⟩ := T.D_plain.kbinds0 (ps := ["self", "most"]) 1 ["most"] [] (fun us _ ws => us ++ ws) (by simp) (by simp) (fun r1 _ r4 => r1.append r4) (by
    intro D1 doc pm an cdv ct us mv ws h1 h2 h3
    match us, mv, ws, h1, h2, h3 with
    | [_], [], [_], _, _, _ => rfl)
  exact ⟨_, h⟩


abbrev rTupOf (K : PySem.W.Frag) : List V → Hp → VK → Prop := fun xs H Q => ∃ p ys, xs = [.ref p] ∧ ((SqL K H p ys ∧ ∀ l, H l = none → Q (.ref l) (upd H l (.tup ys))) ∨ (SqT K H p ys ∧ Q (.ref p) H))
theorem joinT {b : Bool} {t : TS} {D : Ends} {σ : St} {H : Hp} (P : Hp → Prop) (h1 : b = true → ∀ nx : St → Hp → Prop, (∀ H1, P H1 → nx σ H1) → t { D with nx := nx } σ H) (h2 : b = false → P H) (k : ∀ H1, P H1 → D.nx σ H1) : if b = true then t D σ H else tNext D σ H := by
  cases b with
  | true => exact h1 rfl D.nx k
  | false => exact k H (h2 rfl)
theorem sqT_updI {K : PySem.W.Frag} {H : Hp} {a D C dx : Addr} {fs : List (Str × V)} {xs : List V} {o : HO} (hD : H D = some (.ins C dx fs)) (h : SqT K H a xs) : SqT K (upd H D o) a xs := by
  rcases h with (h | ⟨o2, h⟩) | h
  · exact .inl (.inl (by rw [upd_ne (by rintro rfl; rw [hD] at h; cases h)]; exact h))
  · exact .inl (.inr ⟨o2, by rw [upd_ne (by rintro rfl; rw [hD] at h; cases h)]; exact h⟩)
  · exact .inr h
theorem Pairs.updI {K : PySem.W.Frag} {H : Hp} {vs : List V} {rs : List Rn} {D C dx : Addr} {fs : List (Str × V)} {o : HO} (hD : H D = some (.ins C dx fs)) (h : Pairs K H vs rs) : Pairs K (L2.upd H D o) vs rs := Paired.mapP h fun _ _ ⟨a, w, e, h1, h2⟩ => ⟨a, w, e, sqT_updI hD h1, sqT_updI hD h2⟩
/-- all but x stays -/
def SameBut (x : Addr) (H H' : Hp) : Prop := ∀ b o, b ≠ x → H b = some o → H' b = some o
def spInit (K : PySem.W.Frag) : Sp := fun vs H Q _ => ∃ (x dx a : Addr) (b : Bool) (ss : List Rn), vs = [.ref x, .ref a, .bl b] ∧ H x = some (.ins (cR K) dx []) ∧ RunsAt K H a ss ∧ Fit ss ∧ (b = true → ss.length ≤ 20 ∧ ∀ r ∈ ss, StrOk r) ∧ ∀ H', SameBut x H H' → RowAt K H' x ss → Q .non H'

theorem ok_Row___init__ (T : Top K mg) : FnOk PW w K mg base CX0 7 (me K "__init__") (fdOf K (me K "__init__")) ["self", "stretches", "checked"] (spInit K) := by
  obtain ⟨e0, F⟩ := T.D_init
  refine F.ok sc_Row___init__ (fun vs H Q E h => ?_) (fun cdv A outer s H vs Q E hr h => ?_)
  · obtain ⟨x, dx, a, b, ss, rfl, _hx, _hR, _hf, _hb, _k⟩ := h
    rfl
  · obtain ⟨x, dx, a, b, ss, rfl, hx, hR, hf, hb, k⟩ := h
    have hu := hu_of hr
    refine ⟨_, (pss_cons (ps_if (pt_val (pv 2)) (pss_one (ps_expr (pe_call (ok_need_stretches T) (hr.mono (by decide)) rfl T.g_need_stretches T.F_need_stretches.kp T.b_need_stretches .nil pass0 (pa_cons (pv 1) pa_nil)))) pss_nil)
      (pss_one (ps_fld (pv 0) (pe_callTy call_tuple_of (by rfl) T.z_tuple (by decide +kernel) (pa_cons (pe_lc (own := [("word", 3), ("times", 4)]) (te := tTup (tCons (tCB (rTupOf K) (tCons (tVar 3) tNil)) (tCons (tVar 4) tNil))) (g := gTup K 2 (gCons (gName 3) (gCons (gName 4) gNil))) (by rfl) sc_Row___init__.nd (pi_list (pv 1)) (blkOk_by (own := [("word", 3), ("times", 4)]) (N := ["self", "stretches", "checked", "word", "times"]) (sc := (defScope s_Row___init__)) (by decide +kernel)) (fun _ _ _ _ _ => (pg_tup (by rfl) (pgs_cons (pg_name (i := 3) sc_Row___init__.nd rfl (Or.inl rfl)) (pgs_cons (pg_name (i := 4) sc_Row___init__.nd rfl (Or.inl rfl)) pgs_nil)))) (fun _ _ _ _ _ => pts_nil) (fun _ _ _ _ _ => (pe_tup (pa_cons (pe_callTy call_tuple_of (by rfl) T.z_tuple (by decide +kernel) (pa_cons (pv 3) pa_nil)) (pa_cons (pv 4) pa_nil))))) pa_nil)) rfl))), ?_⟩
    obtain ⟨xs, h1, hp⟩ := id hR
    have hle : xs.length = ss.length := Paired.length hp
    obtain ⟨hf1, hf2⟩ := hf
    refine ⟨_, rfl, _, rfl, joinT (fun H1 => Same H H1) (fun hbt nx hnx => ?_) (fun _ => Same.refl _) fun H1 s1 => ?_⟩
    · exact ⟨_, rfl, a, xs, ss, rfl, h1, hp, (hb hbt).1, (hb hbt).2, fun H1 s1 => hnx H1 s1⟩
    replace h1 := s1.seq h1
    replace hp := Pairs.same s1 hp
    replace hx := s1 _ _ hx
    refine ⟨_, rfl, a, rfl, ⟨_, h1⟩, fun D hD => ?_⟩
    refine lc_list (K := K) (a := a) (xs := xs) (fun i H2 => Same H1 H2 ∧ ∃ vs, H2 D = some (.lst vs) ∧ Pairs K H2 vs (ss.take i)) ⟨same_upd hD, _, upd_same, .nil⟩ (fun i H2 _ ⟨s2, _⟩ => s2.seq h1) ?_ ?_
    · rintro i y H2 hi ⟨s2, vs, hD2, hacc⟩
      obtain ⟨r, hr1, q⟩ := paired_at hp hi
      obtain ⟨q0, wd, rfl, q1, q2⟩ := q.same s2
      have hil : i < ss.length := (List.getElem?_eq_some_iff.mp hr1).1
      have hvl : vs.length = (ss.take i).length := Paired.length hacc
      rw [List.length_take] at hvl
      refine ⟨q0, _, rfl, q1, rfl, _, _, rfl, _, _, rfl, rfl, rfl, ?_⟩
      refine ⟨_, rfl, wd, _, rfl, .inr ⟨q2, _, rfl, Nat.le_of_ble_eq_true rfl, fun p4 h4 => ?_⟩⟩
      have s6 := same_upd (o := .tup [.ref wd, .int ((r.2 : Nat) : Int)]) h4
      refine ⟨_, s6 _ _ hD2, (by rw [sizeLine_eq]; omega), same_at hD (s2.trans s6), _, upd_same, ?_⟩
      rw [take_at hr1]
      exact Pairs.upd (s6 _ _ hD2) (Paired.append (Pairs.same s6 hacc) ⟨p4, wd, rfl, SqT.of upd_same, Same.seqT s6 q2⟩)
    · rintro H2 ⟨s2, vs, hD2, hacc⟩
      rw [hle, List.take_length] at hacc
      refine ⟨D, vs, rfl, .inl ⟨SqL.of hD2, fun l hl => ⟨_, rfl, x, cR K, dx, [], rfl, same_upd hl _ _ (s2 _ _ hx), T.cl, T.nS, by decide, ?_⟩⟩⟩
      have s7 := same_upd (o := .tup vs) hl
      have hx2 := s7 _ _ (s2 _ _ hx)
      refine k _ (fun b o hne e => ?_) ⟨dx, l, vs, upd_same, sqT_updI hx2 (SqT.of upd_same), Pairs.updI hx2 (Pairs.same s7 hacc)⟩
      rw [upd_ne hne]
      exact s7 _ _ (s2 _ _ (s1 _ _ e))
end
end R4
set_option Elab.async false
set_option linter.all false
set_option maxRecDepth 100000
set_option maxHeartbeats 4000000
namespace R4
open PySem L2 PySem.GW
open RM (Rn)
section
variable {w : World} {K : PySem.W.Frag} {mg : Str → Option Value} {base : Heap}

/-- a Row of the numbers l, told by at most n stretches -/
def RowOf (K : PySem.W.Frag) (H : Hp) (p : Addr) (l : List Int) (n : Nat) : Prop := ∃ ss, RowAt K H p ss ∧ Fit ss ∧ ss.length ≤ n ∧ RM.flatS ss = l
theorem RowOf.same {K : PySem.W.Frag} {H H' : Hp} {p : Addr} {l : List Int} {n : Nat} (e : Same H H') (h : RowOf K H p l n) : RowOf K H' p l n := by
  obtain ⟨ss, h1, h2⟩ := h
  exact ⟨ss, h1.same e, h2⟩
theorem Fit.good {rs : List Rn} (h : Fit rs) : RM.Good rs := fun r hr => (h.2 r hr).1
theorem rowF_len : ∀ rs : List Rn, (RM.rowF rs).length ≤ 2 * rs.length
  | [] => Nat.le_refl _
  | r :: rs => by
    rw [RM.rowF_cons, List.length_append, List.length_append, List.length_cons]
    have h := rowF_len rs
    by_cases h1 : r.1.length ≤ r.2 <;> by_cases h2 : 0 < r.2 % r.1.length <;> simp only [h1, h2, if_true, if_false, List.length_cons, List.length_nil] <;> omega
theorem rowF_words : ∀ (rs : List Rn), (∀ r ∈ rs, r.1.length ≤ 100000) → ∀ r ∈ RM.rowF rs, r.1.length ≤ 100000
  | [], _, r, hr => by simp [RM.rowF] at hr
  | q :: rs, h, r, hr => by
    rw [RM.rowF_cons, List.mem_append, List.mem_append] at hr
    have hq := h q (List.mem_cons_self ..)
    rcases hr with (hr | hr) | hr
    · split at hr
      · rw [List.mem_singleton.mp hr]; exact hq
      · cases hr
    · split at hr
      · rw [List.mem_singleton.mp hr]; show (q.1.take _).length ≤ _; rw [List.length_take]; omega
      · cases hr
    · exact rowF_words rs (fun r hr => h r (List.mem_cons_of_mem _ hr)) r hr
theorem Fit.rowF {rs : List Rn} (h : Fit rs) (hl : rs.length ≤ 50000) : Fit (RM.rowF rs) := ⟨Nat.le_trans (rowF_len rs) (by omega), fun r hr => ⟨RM.rowF_good rs h.good r hr, rowF_words rs (fun r hr => (h.2 r hr).2) r hr⟩⟩
def spRowOf (K : PySem.W.Frag) : Sp := fun vs H Q _ => ∃ (a : Addr) (rs : List Rn), vs = [.ref a] ∧ RunsAt K H a rs ∧ Fit rs ∧ rs.length ≤ 50000 ∧ ∀ p H', Same H H' → H p = none → RowOf K H' p (RM.flat rs) (2 * rs.length) → Q (.ref p) H'
theorem div_nat (a b : Nat) : ((a : Int) / (b : Int)) = ((a / b : Nat) : Int) := by push_cast; rfl
theorem joinU {b : Bool} {t : TS} {D : Ends} {σ : St} {H : Hp} (P : St → Hp → Prop) (h1 : b = true → ∀ nx : St → Hp → Prop, (∀ σ H1, P σ H1 → nx σ H1) → t { D with nx := nx } σ H) (h2 : b = false → P σ H) (k : ∀ σ H1, P σ H1 → D.nx σ H1) : if b = true then t D σ H else tNext D σ H := by
  cases b with
  | true => exact h1 rfl D.nx k
  | false => exact k σ H (h2 rfl)

theorem ok_row_of (T : Top K mg) : FnOk PW w K mg base CX0 9 (fa K "row_of") (fdOf K (fa K "row_of")) ["runs"] (spRowOf K) := by
  refine T.F_row_of.ok sc_row_of (fun vs H Q E h => ?_) (fun cdv A outer s H vs Q E hr h => ?_)
  · obtain ⟨a, rs, rfl, _hR, _hf, _hl5, _k⟩ := h
    rfl
  · obtain ⟨a, rs, rfl, hR, hf, hl5, k⟩ := h
    have hu := hu_of hr
    obtain ⟨gK, hKB⟩ := init_kb T
    refine ⟨_, (pss_cons (ps_set (i := 1) sc_row_of.nd rfl (Or.inl rfl) (pe_lst pa_nil))
      (pss_cons (ps_for PassesOwn.never rfl (pi_list (pv 0)) (pg_tup (by rfl) (pgs_cons (pg_name (i := 2) sc_row_of.nd rfl (Or.inl rfl)) (pgs_cons (pg_name (i := 3) sc_row_of.nd rfl (Or.inl rfl)) pgs_nil))) (pss_cons (ps_if (pt_cmpR op_ge (pv 3) (pe_callB call_len_seq (by rfl) T.z_len (by decide +kernel) (pa_cons (pv 2) pa_nil)) (nomark _)) (pss_one (ps_expr (pe_bm PySem.F.plainAttrs_list PySem.F.slot_list_append PySem.F.type_list_append mt_append (pv 1) (pa_cons (pe_tup (pa_cons (pv 2) (pa_cons (pe_op op_fdiv (pv 3) (pe_callB call_len_seq (by rfl) T.z_len (by decide +kernel) (pa_cons (pv 2) pa_nil))) pa_nil))) pa_nil)))) pss_nil)
      (pss_one (ps_if (pt_cmpR op_gt (pe_op op_mod (pv 3) (pe_callB call_len_seq (by rfl) T.z_len (by decide +kernel) (pa_cons (pv 2) pa_nil))) pe_int (nomark _)) (pss_one (ps_expr (pe_bm PySem.F.plainAttrs_list PySem.F.slot_list_append PySem.F.type_list_append mt_append (pv 1) (pa_cons (pe_tup (pa_cons (pe_slice sl_tupA (pv 2) po_none (po_some (pe_op op_mod (pv 3) (pe_callB call_len_seq (by rfl) T.z_len (by decide +kernel) (pa_cons (pv 2) pa_nil))))) (pa_cons pe_int pa_nil))) pa_nil)))) pss_nil))))
      (pss_one (ps_ret (pe_makeK T.mkR (ok_Row___init__ T) (hr.mono (by decide)) rfl T.g_Row hKB pass0 (pa_cons (pv 1) pa_nil) (pk_cons pe_bl pk_nil)))))), ?_⟩
    obtain ⟨xs, hx, hp⟩ := hR
    have hle : xs.length = rs.length := Paired.length hp
    have hf0 := hf
    obtain ⟨hf1, hf2⟩ := hf
    refine ⟨Nat.zero_le _, fun D hD => ?_⟩
    refine ⟨_, rfl, a, rfl, ⟨xs, (same_upd hD).seq hx⟩, for_list (K := K) (a := a) (xs := xs) (fun i σ H2 => Same H H2 ∧ ∃ (vs : List V) (o2 o3 : Option V), σ = [some (.ref a), some (.ref D), o2, o3] ∧ H2 D = some (.lst vs) ∧ Pairs K H2 vs (RM.rowF (rs.take i))) ⟨same_upd hD, [], _, _, rfl, upd_same, .nil⟩ (fun i σ H2 _ ⟨s2, _⟩ => s2.seq hx) ?_ ?_⟩
    · rintro i x σ H2 hi ⟨s2, vs, o2, o3, rfl, hD2, hacc⟩
      obtain ⟨r, hr1, q⟩ := paired_at hp hi
      obtain ⟨p, wd, rfl, q1, q2⟩ := q
      have hil : i < rs.length := (List.getElem?_eq_some_iff.mp hr1).1
      obtain ⟨hw1, hw2⟩ := hf2 r (List.mem_of_getElem? hr1)
      have hvl : vs.length = (RM.rowF (rs.take i)).length := Paired.length hacc
      have hrl := rowF_len (rs.take i)
      rw [List.length_take] at hrl
      have hpos : 0 < r.1.length := List.length_pos_iff.mpr hw1
      have hst : RM.rowF (rs.take (i + 1)) = RM.rowF (rs.take i) ++ ((if r.1.length ≤ r.2 then [(r.1, r.2 / r.1.length)] else []) ++ (if 0 < r.2 % r.1.length then [(r.1.take (r.2 % r.1.length), 1)] else [])) := by
        rw [take_at hr1]
        simp only [RM.rowF, List.flatMap_append, List.flatMap_cons, List.flatMap_nil, List.append_nil]
      have hln : ((r.1.map V.int).length : Int) = r.1.length := by rw [List.length_map]
      refine ⟨p, _, rfl, Same.seqT s2 q1, rfl, _, _, rfl, _, _, rfl, rfl, ?_⟩
      refine ⟨_, rfl, _, rfl, wd, _, rfl, .inr (Same.seqT s2 q2), _, _, rfl, rfl, _, rfl, joinU (fun σ H3 => σ = [some (.ref a), some (.ref D), some (.ref wd), some (.int (r.2 : Int))] ∧ Same H H3 ∧ ∃ vs2, H3 D = some (.lst vs2) ∧ vs2.length ≤ vs.length + 1 ∧ Pairs K H3 vs2 (RM.rowF (rs.take i) ++ if r.1.length ≤ r.2 then [(r.1, r.2 / r.1.length)] else [])) ?_ ?_ ?_⟩
      · intro hb nx hnx
        have hc : r.1.length ≤ r.2 := by have := of_decide_eq_true hb; omega
        refine ⟨_, rfl, .inl ⟨rfl, _, SqL.of hD2⟩, _, rfl, _, rfl, _, rfl, wd, _, rfl, .inr (Same.seqT s2 q2), iC (by rw [List.length_map]; exact ⟨by omega, by omega⟩) (v := .int ((r.2 / r.1.length : Nat) : Int)) (by rw [List.length_map]; exact congrArg V.int (div_nat _ _)) ⟨Nat.le_of_ble_eq_true rfl, fun p4 h4 => ?_⟩⟩
        have s6 := same_upd (o := .tup [.ref wd, .int ((r.2 / r.1.length : Nat) : Int)]) h4
        refine ⟨D, _, _, rfl, rfl, s6 _ _ hD2, (by rw [sizeLine_eq]; omega), hnx _ _ ⟨rfl, same_at hD (s2.trans s6), _, upd_same, (by rw [List.length_append]; exact Nat.le_refl _), ?_⟩⟩
        rw [if_pos hc]
        exact Pairs.upd (s6 _ _ hD2) (Paired.append (Pairs.same s6 hacc) ⟨p4, wd, rfl, SqT.of upd_same, Same.seqT (s2.trans s6) q2⟩)
      · intro hb
        have hc : ¬ r.1.length ≤ r.2 := by have := of_decide_eq_false hb; omega
        refine ⟨rfl, s2, vs, hD2, by omega, ?_⟩
        rw [if_neg hc, List.append_nil]
        exact hacc
      · rintro σ H3 ⟨rfl, s3, vs2, hD3, hl3, hacc3⟩
        refine ⟨_, rfl, _, rfl, wd, _, rfl, .inr (Same.seqT s3 q2), iC (by rw [List.length_map]; omega) (v := .int ((r.2 % r.1.length : Nat) : Int)) (by rw [List.length_map]; exact congrArg V.int (mod_nat _ _)) (tcI ⟨_, _, rfl, rfl, _, rfl, ?_⟩)⟩
        by_cases hc : 0 < r.2 % r.1.length
        · rw [if_pos hc, ← List.append_assoc] at hst
          refine ifT (decide_eq_true (by omega)) ?_
          refine ⟨_, rfl, .inl ⟨rfl, _, SqL.of hD3⟩, _, rfl, noPart ⟨_, rfl, _, rfl, wd, _, rfl, .inr (Same.seqT s3 q2), iC (by rw [List.length_map]; omega) (v := .int ((r.2 % r.1.length : Nat) : Int)) (by rw [List.length_map]; exact congrArg V.int (mod_nat _ _)) ⟨_, rfl, ?_⟩⟩⟩
          refine slA_take (Same.seqT s3 q2) fun p1 H4 s4 t1 => ?_
          refine tcI ⟨Nat.le_of_ble_eq_true rfl, fun p4 h4 => ?_⟩
          have s6 := same_upd (o := .tup [.ref p1, .int 1]) h4
          refine ⟨D, _, _, rfl, rfl, s6 _ _ (s4 _ _ hD3), (by rw [sizeLine_eq]; omega), same_at hD ((s3.trans s4).trans s6), _, _, _, rfl, upd_same, ?_⟩
          rw [hst]
          refine Pairs.upd (s6 _ _ (s4 _ _ hD3)) (Paired.append (Pairs.same (s4.trans s6) hacc3) ⟨p4, p1, rfl, SqT.of upd_same, ?_⟩)
          have t4 := Same.seqT s6 t1
          rw [← List.map_take] at t4
          exact t4
        · rw [if_neg hc, List.append_nil] at hst
          refine ifF (decide_eq_false (by omega)) ⟨s3, vs2, _, _, rfl, hD3, ?_⟩
          rw [hst]
          exact hacc3
    · rintro σ H2 ⟨s2, vs, o2, o3, rfl, hD2, hacc⟩
      rw [hle, List.take_length] at hacc
      refine ⟨_, rfl, rfl, rfl, fun x dx hx0 hdx hne => ⟨x, dx, D, false, _, rfl, upd_same, ?_, hf0.rowF hl5, (fun e => nomatch e), fun H3 s3 hrow => ⟨rfl, ?_⟩⟩⟩
      · have s4 : Same H2 (upd (upd H2 dx (.own x)) x (.ins (cR K) dx [])) := fun b o e => by
          rw [upd_ne (ne_of_none e hx0), upd_ne (ne_of_none e hdx)]
          exact e
        exact RunsAt.same s4 ⟨vs, SqL.of hD2, hacc⟩
      · have s5 : Same H2 H3 := fun b o e => s3 b o (ne_of_none e hx0) (by
          rw [upd_ne (ne_of_none e hx0), upd_ne (ne_of_none e hdx)]
          exact e)
        have hx1 : H x = none := by
          cases hh : H x with
          | none => rfl
          | some o => rw [s2 _ _ hh] at hx0; cases hx0
        exact k x H3 (s2.trans s5) hx1 ⟨_, hrow, hf0.rowF hl5, rowF_len rs, RM.rowF_flat rs hf0.good⟩
end
end R4
set_option Elab.async false
set_option linter.all false
set_option maxRecDepth 100000
set_option maxHeartbeats 4000000
namespace R4
open PySem L2 PySem.GW
open RM (Rn)
section
variable {w : World} {K : PySem.W.Frag} {mg : Str → Option Value} {base : Heap}

theorem begF_len : ∀ (rs : List Rn) (k : Nat), (RM.begF rs k).length = rs.length
  | [], _ => rfl
  | (w, n) :: rs, k => by show (RM.begF rs (k - min n k)).length + 1 = _; rw [begF_len rs]; rfl
theorem begF_words : ∀ (rs : List Rn) (k : Nat), (∀ r ∈ rs, r.1.length ≤ 100000) → ∀ r ∈ RM.begF rs k, r.1.length ≤ 100000
  | [], _, _, r, hr => by cases hr
  | (w, n) :: rs, k, h, r, hr => by
    rcases List.mem_cons.mp hr with e | hr
    · rw [e]; exact h (w, n) (List.mem_cons_self ..)
    · exact begF_words rs _ (fun r hr => h r (List.mem_cons_of_mem _ hr)) r hr
theorem Fit.begF {rs : List Rn} (h : Fit rs) (k : Nat) : Fit (RM.begF rs k) := ⟨by rw [begF_len]; exact h.1, fun r hr => ⟨RM.begF_good rs k h.good r hr, begF_words rs k (fun r hr => (h.2 r hr).2) r hr⟩⟩
theorem cutF_len : ∀ (rs : List Rn) (k : Nat), (RM.cutF rs k).length ≤ rs.length
  | [], _ => Nat.le_refl _
  | (w, n) :: rs, k => by
    show ((if _ then [_] else []) ++ RM.cutF rs _).length ≤ _
    rw [List.length_append, List.length_cons]
    have := cutF_len rs (k - min k n)
    split <;> simp <;> omega
theorem cutF_fit : ∀ (rs : List Rn) (k : Nat), (∀ r ∈ rs, r.1 ≠ [] ∧ r.1.length ≤ 100000) → ∀ r ∈ RM.cutF rs k, r.1 ≠ [] ∧ r.1.length ≤ 100000
  | [], _, _, r, hr => by cases hr
  | (w, n) :: rs, k, h, r, hr => by
    obtain ⟨h1, h2⟩ := h (w, n) (List.mem_cons_self ..)
    have hpos : 0 < w.length := List.length_pos_iff.mpr h1
    rcases List.mem_append.mp hr with hr | hr
    · split at hr
      · rw [List.mem_singleton.mp hr]
        have hm := Nat.mod_lt (min k n) hpos
        have e := RM.rot_length w (min k n % w.length) (Nat.le_of_lt hm)
        refine ⟨fun e0 => ?_, ?_⟩
        · have e1 : (w.drop (min k n % w.length) ++ w.take (min k n % w.length)) = [] := e0
          rw [e1] at e; exact h1 (List.eq_nil_of_length_eq_zero e.symm)
        · exact Nat.le_trans (Nat.le_of_eq e) h2
      · cases hr
    · exact cutF_fit rs _ (fun r hr => h r (List.mem_cons_of_mem _ hr)) r hr
theorem Fit.cutF {rs : List Rn} (h : Fit rs) (k : Nat) : Fit (RM.cutF rs k) := ⟨Nat.le_trans (cutF_len rs k) h.1, cutF_fit rs k h.2⟩
theorem sqT_at {w : List Int} {i : Nat} (h : i < w.length) : (w.map V.int)[i]? = some (.int (w.getD i 0)) := by
  rw [List.getElem?_map, List.getElem?_eq_getElem h, List.getD_eq_getElem?_getD, List.getElem?_eq_getElem h]; rfl
def spBud (K : PySem.W.Frag) : Sp := fun vs H Q _ => ∃ (p : Addr) (l : List Int) (n i : Nat) (v : Int), vs = [.ref p, .int (i : Int)] ∧ RowOf K H p l n ∧ l[i]? = some v ∧ ∀ H', Same H H' → Q (.int v) H'
def spBeg (K : PySem.W.Frag) : Sp := fun vs H Q _ => ∃ (p : Addr) (l : List Int) (n i : Nat), vs = [.ref p, .int (i : Int)] ∧ RowOf K H p l n ∧ n ≤ 50000 ∧ i ≤ l.length ∧ ∀ q H', Same H H' → H q = none → RowOf K H' q (l.take i) (2 * n) → Q (.ref q) H'
def spBehind (K : PySem.W.Frag) : Sp := fun vs H Q _ => ∃ (p : Addr) (l : List Int) (n i : Nat), vs = [.ref p, .int (i : Int)] ∧ RowOf K H p l n ∧ n ≤ 50000 ∧ i ≤ l.length ∧ ∀ q H', Same H H' → H q = none → RowOf K H' q (l.drop i) (2 * n) → Q (.ref q) H'
theorem RowOf.mono {H : Hp} {p : Addr} {l : List Int} {n m : Nat} (h : RowOf K H p l n) (e : n ≤ m) : RowOf K H p l m := by
  obtain ⟨ss, h1, h2, h3, h4⟩ := h
  exact ⟨ss, h1, h2, Nat.le_trans h3 e, h4⟩
theorem fresh_back {H H' : Hp} {p : Addr} (e : Same H H') (h : H' p = none) : H p = none := by
  cases hh : H p with
  | none => rfl
  | some o => rw [e _ _ hh] at h; cases h

theorem ok_Row_bud (T : Top K mg) : FnOk PW w K mg base CX0 3 (me K "bud") (fdOf K (me K "bud")) ["self", "index"] (spBud K) := by
  refine T.F_Row_bud.ok sc_Row_bud (fun vs H Q E h => ?_) (fun cdv A outer s H vs Q E hr h => ?_)
  · obtain ⟨p, l, n, i0, v, rfl, _hR, _hv, _k⟩ := h
    rfl
  · obtain ⟨p, l, n, i0, v, rfl, hR, hv, k⟩ := h
    have hu := hu_of hr
    refine ⟨_, (pss_cons (ps_if (PW.pt (pw_or (pt_not (pt_val (pe_call (ok_is_whole T) (hr.mono (by decide)) rfl T.g_is_whole T.F_is_whole.kp T.b_is_whole .nil pass0 (pa_cons (pv 1) (pa_cons pe_int pa_nil))))) (pw_or1 (pt_cmpR op_ge (pv 1) (pe_meth0 (pv 0) T.cl T.m_total (ok_Row_total T) (hr.mono (by decide)) T.b_Row_total .nil pass0) (nomark _))))) (pss_one ps_never) pss_nil)
      (pss_cons (ps_set (i := 2) sc_Row_bud.nd rfl (Or.inl rfl) (pv 1))
      (pss_cons (ps_for PassesOwn.never rfl (pi_list (pe_meth0 (pv 0) T.cl T.m_runs (ok_Row_runs T) (hr.mono (by decide)) T.b_Row_runs .nil pass0)) (pg_tup (by rfl) (pgs_cons (pg_name (i := 3) sc_Row_bud.nd rfl (Or.inl rfl)) (pgs_cons (pg_name (i := 4) sc_Row_bud.nd rfl (Or.inl rfl)) pgs_nil))) (pss_cons (ps_if (pt_cmpR op_lt (pv 2) (pv 4) (nomark _)) (pss_one (ps_ret (pe_ix ix_tup (pv 3) (pe_op op_mod (pv 2) (pe_callB call_len_seq (by rfl) T.z_len (by decide +kernel) (pa_cons (pv 3) pa_nil))) (fun _ _ => rfl)))) pss_nil)
      (pss_one (ps_aug (i := 2) sc_Row_bud.nd rfl (.inl rfl) (pv 4) ip_sub))))
      (pss_one ps_never)))), ?_⟩
    have hR0 := hR
    obtain ⟨ss, hA, hF, hln, rfl⟩ := hR
    obtain ⟨dx, T0, xs0, g1, g2, g3⟩ := id hA
    have hil : i0 < (RM.flatS ss).length := (List.getElem?_eq_some_iff.mp hv).1
    refine ⟨_, rfl, tcI ⟨_, _, rfl, _, rfl, ?_⟩⟩
    rw [decide_eq_true (by omega : (0 : Int) ≤ (i0 : Int))]
    refine iteF ⟨_, rfl, _, rfl, p, dx, _, rfl, g1, rfl, p, ss, rfl, hA, hF, fun H1 s1 => ⟨_, _, rfl, rfl, _, rfl, ifF (decide_eq_false (by omega)) ?_⟩⟩
    refine ⟨_, rfl, _, rfl, p, dx, _, rfl, s1 _ _ g1, rfl, p, ss, rfl, hA.same s1, hF, fun a H2 s2 ha hr2 => ?_⟩
    obtain ⟨xs, hx, hp⟩ := hr2
    have hf2 := hF.runs.2
    have hle : xs.length = (RM.runs ss).length := Paired.length hp
    refine ⟨a, rfl, ⟨_, hx⟩, for_list (K := K) (a := a) (xs := xs) (fun i σ H3 => Same H2 H3 ∧ ∃ (left : Nat) (o3 o4 : Option V), σ = [some (.ref p), some (.int (i0 : Int)), some (.int (left : Int)), o3, o4] ∧ (RM.flat ((RM.runs ss).drop i))[left]? = some v) ⟨Same.refl _, i0, _, _, rfl, hv⟩ (fun i σ H3 _ ⟨s3, _⟩ => s3.seq hx) ?_ ?_⟩
    · rintro i x σ H3 hi ⟨s3, left, o3, o4, rfl, hv3⟩
      obtain ⟨r, hr1, q⟩ := paired_at hp hi
      obtain ⟨p1, wd, rfl, q1, q2⟩ := q.same s3
      obtain ⟨hw1, hw2⟩ := hf2 r (List.mem_of_getElem? hr1)
      have hpos : 0 < r.1.length := List.length_pos_iff.mpr hw1
      rw [drop_at hr1, RM.flat_cons] at hv3
      refine ⟨p1, _, rfl, q1, rfl, _, _, rfl, _, _, rfl, rfl, ?_⟩
      refine ⟨_, rfl, _, rfl, _, _, rfl, rfl, _, rfl, ?_⟩
      by_cases hc : left < r.2
      · refine ifT (decide_eq_true (by omega)) ?_
        rw [List.getElem?_append_left (by rw [RM.rep_length]; exact hc), RM.rep_at _ hc] at hv3
        cases hv3
        refine ⟨_, rfl, _, rfl, _, rfl, wd, _, rfl, .inr q2, iC (by rw [List.length_map]; omega) (v := .int ((left % r.1.length : Nat) : Int)) (by rw [List.length_map]; exact congrArg V.int (mod_nat _ _)) ⟨wd, _, _, _, rfl, rfl, q2, atI_nat (sqT_at (Nat.mod_lt _ hpos)), k H3 ((s1.trans s2).trans s3)⟩⟩
      · refine ifF (decide_eq_false (by omega)) ?_
        rw [List.getElem?_append_right (by rw [RM.rep_length]; omega), RM.rep_length] at hv3
        have hsub : (left : Int) - (r.2 : Int) = ((left - r.2 : Nat) : Int) := by omega
        refine ⟨_, rfl, _, rfl, _, _, rfl, rfl, s3, left - r.2, some (.ref wd), some (.int (r.2 : Int)), ?_, hv3⟩
        show [_, _, some (V.int ((left : Int) - (r.2 : Int))), _, _] = _
        rw [hsub]
    · rintro σ H3 ⟨s3, left, o3, o4, rfl, hv3⟩
      rw [hle, List.drop_length, RM.flat_nil] at hv3
      simp at hv3
theorem ok_Row_beginning (T : Top K mg) : FnOk PW w K mg base CX0 10 (me K "beginning") (fdOf K (me K "beginning")) ["self", "many"] (spBeg K) := by
  refine T.F_Row_beginning.ok sc_Row_beginning (fun vs H Q E h => ?_) (fun cdv A outer s H vs Q E hr h => ?_)
  · obtain ⟨p, l, n, i0, rfl, _hR, _hn5, _hil, _k⟩ := h
    rfl
  · obtain ⟨p, l, n, i0, rfl, hR, hn5, hil, k⟩ := h
    have hu := hu_of hr
    refine ⟨_, (pss_cons (ps_if (PW.pt (pw_or (pt_not (pt_val (pe_call (ok_is_whole T) (hr.mono (by decide)) rfl T.g_is_whole T.F_is_whole.kp T.b_is_whole .nil pass0 (pa_cons (pv 1) (pa_cons pe_int pa_nil))))) (pw_or1 (pt_cmpR op_gt (pv 1) (pe_meth0 (pv 0) T.cl T.m_total (ok_Row_total T) (hr.mono (by decide)) T.b_Row_total .nil pass0) (nomark _))))) (pss_one ps_never) pss_nil)
      (pss_cons (ps_set (i := 2) sc_Row_beginning.nd rfl (Or.inl rfl) (pv 1))
      (pss_cons (ps_set (i := 3) sc_Row_beginning.nd rfl (Or.inl rfl) (pe_lst pa_nil))
      (pss_cons (ps_for PassesOwn.never rfl (pi_list (pe_meth0 (pv 0) T.cl T.m_runs (ok_Row_runs T) (hr.mono (by decide)) T.b_Row_runs .nil pass0)) (pg_tup (by rfl) (pgs_cons (pg_name (i := 4) sc_Row_beginning.nd rfl (Or.inl rfl)) (pgs_cons (pg_name (i := 5) sc_Row_beginning.nd rfl (Or.inl rfl)) pgs_nil))) (pss_cons (ps_expr (pe_bm PySem.F.plainAttrs_list PySem.F.slot_list_append PySem.F.type_list_append mt_append (pv 3) (pa_cons (pe_tup (pa_cons (pv 4) (pa_cons (pe_callB (call_min2 rfl) (by rfl) T.z_min (by decide +kernel) (pa_cons (pv 5) (pa_cons (pv 2) pa_nil))) pa_nil))) pa_nil)))
      (pss_one (ps_aug (i := 2) sc_Row_beginning.nd rfl (.inl rfl) (pe_callB (call_min2 rfl) (by rfl) T.z_min (by decide +kernel) (pa_cons (pv 5) (pa_cons (pv 2) pa_nil))) ip_sub))))
      (pss_one (ps_ret (pe_call (ok_row_of T) (hr.mono (by decide)) rfl T.g_row_of T.F_row_of.kp T.b_row_of .nil pass0 (pa_cons (pv 3) pa_nil)))))))), ?_⟩
    have hR0 := hR
    obtain ⟨ss, hA, hF, hln, rfl⟩ := hR
    obtain ⟨dx, T0, xs0, g1, g2, g3⟩ := id hA
    refine ⟨_, rfl, tcI ⟨_, _, rfl, _, rfl, ?_⟩⟩
    rw [decide_eq_true (by omega : (0 : Int) ≤ (i0 : Int))]
    refine iteF ⟨_, rfl, _, rfl, p, dx, _, rfl, g1, rfl, p, ss, rfl, hA, hF, fun H1 s1 => ⟨_, _, rfl, rfl, _, rfl, ifF (decide_eq_false (by omega)) ?_⟩⟩
    refine ⟨_, rfl, Nat.zero_le _, fun D hD => ?_⟩
    have sD := s1.trans (same_upd (o := .lst []) hD)
    refine ⟨_, rfl, p, dx, _, rfl, sD _ _ g1, rfl, p, ss, rfl, hA.same sD, hF, fun a H2 s2 ha hr2 => ?_⟩
    obtain ⟨xs, hx, hp⟩ := hr2
    have hle : xs.length = (RM.runs ss).length := Paired.length hp
    have hfr := hF.runs
    have hrl := runs_len ss
    have aD : a ≠ D := fun e => by have ha := ha.1; rw [e, upd_same] at ha; cases ha
    have hxu : ∀ {H3 : Hp}, (∀ b o, b ≠ D → H2 b = some o → H3 b = some o) → SqL K H3 a xs := by
      intro H3 s3
      rcases hx with (h | ⟨o, h⟩) | h
      · exact .inl (.inl (s3 _ _ aD h))
      · exact .inl (.inr ⟨o, s3 _ _ aD h⟩)
      · exact .inr h
    have hDl : H2 D = some (.lst []) := s2 _ _ upd_same
    refine ⟨a, rfl, ⟨_, hx⟩, for_list (K := K) (a := a) (xs := xs) (fun i σ H3 => SameBut D H2 H3 ∧ ∃ (left : Nat) (vs : List V) (acc : List Rn) (o4 o5 : Option V), σ = [some (.ref p), some (.int (i0 : Int)), some (.int (left : Int)), some (.ref D), o4, o5] ∧ H3 D = some (.lst vs) ∧ Pairs K H3 vs acc ∧ acc.length ≤ i ∧ RM.begF (RM.runs ss) i0 = acc ++ RM.begF ((RM.runs ss).drop i) left) ⟨fun _ _ _ e => e, i0, [], [], _, _, rfl, hDl, .nil, Nat.le_refl _, rfl⟩ (fun i σ H3 _ ⟨s3, _⟩ => hxu s3) ?_ ?_⟩
    · rintro i x σ H3 hi ⟨s3, left, vs, acc, o4, o5, rfl, hD3, hacc, hal, he⟩
      obtain ⟨r, hr1, q⟩ := paired_at hp hi
      obtain ⟨p1, wd, rfl, q1, q2⟩ := q
      have hil2 : i < (RM.runs ss).length := (List.getElem?_eq_some_iff.mp hr1).1
      have hb1 := hfr.1
      have hvl : vs.length = acc.length := Paired.length hacc
      have up : ∀ {t : Addr} {ys : List V}, SqT K H2 t ys → SqT K H3 t ys := by
        intro t ys h
        rcases h with (h | ⟨o, h⟩) | h
        · exact .inl (.inl (s3 _ _ (by rintro rfl; rw [hDl] at h; cases h) h))
        · exact .inl (.inr ⟨o, s3 _ _ (by rintro rfl; rw [hDl] at h; cases h) h⟩)
        · exact .inr h
      replace q1 := up q1
      replace q2 := up q2
      have he2 : RM.begF (RM.runs ss) i0 = (acc ++ [(r.1, min r.2 left)]) ++ RM.begF ((RM.runs ss).drop (i + 1)) (left - min r.2 left) := by rw [he, drop_at hr1, List.append_assoc]; rfl
      refine ⟨p1, _, rfl, q1, rfl, _, _, rfl, _, _, rfl, rfl, ?_⟩
      refine ⟨_, rfl, .inl ⟨rfl, _, SqL.of hD3⟩, _, rfl, _, rfl, _, rfl, _, _, rfl, ?_⟩
      rw [min_cast r.2 left]
      refine ⟨Nat.le_of_ble_eq_true rfl, fun p4 h4 => ?_⟩
      have s6 := same_upd (o := .tup [.ref wd, .int ((min r.2 left : Nat) : Int)]) h4
      refine ⟨D, _, _, rfl, rfl, s6 _ _ hD3, (by rw [sizeLine_eq]; omega), ?_⟩
      refine ⟨_, rfl, _, rfl, _, rfl, _, _, rfl, ?_⟩
      rw [min_cast r.2 left]
      have hsub : (left : Int) - ((min r.2 left : Nat) : Int) = ((left - min r.2 left : Nat) : Int) := by omega
      refine ⟨_, _, rfl, rfl, (fun b o hb e => by rw [upd_ne hb]; exact s6 _ _ (s3 _ _ hb e)), left - min r.2 left, _, acc ++ [(r.1, min r.2 left)], some (.ref wd), some (.int (r.2 : Int)), ?_, upd_same, Pairs.upd (s6 _ _ hD3) (Paired.append (Pairs.same s6 hacc) ⟨p4, wd, rfl, SqT.of upd_same, Same.seqT s6 q2⟩), (by rw [List.length_append]; exact Nat.succ_le_succ hal), he2⟩
      show [_, _, some (V.int ((left : Int) - ((min r.2 left : Nat) : Int))), _, _, _] = _
      rw [hsub]
    · rintro σ H3 ⟨s3, left, vs, acc, o4, o5, rfl, hD3, hacc, hal, he⟩
      rw [hle, List.drop_length] at he
      have he3 : RM.begF (RM.runs ss) i0 = acc := he.trans (List.append_nil _)
      have sH : Same H H3 := fun b o e => s3 b o (ne_of_none (s1 _ _ e) hD) (s2 _ _ (sD _ _ e))
      rw [← he3] at hacc
      have hl2 := begF_len (RM.runs ss) i0
      refine ⟨_, rfl, D, _, rfl, ⟨vs, SqL.of hD3, hacc⟩, hfr.begF i0, (by omega), fun q H4 s4 hq hrow => ?_⟩
      rw [RM.begF_flat] at hrow
      exact k q H4 (sH.trans s4) (fresh_back sH hq) (hrow.mono (by omega))
theorem ok_Row_behind (T : Top K mg) : FnOk PW w K mg base CX0 10 (me K "behind") (fdOf K (me K "behind")) ["self", "many"] (spBehind K) := by
  refine T.F_Row_behind.ok sc_Row_behind (fun vs H Q E h => ?_) (fun cdv A outer s H vs Q E hr h => ?_)
  · obtain ⟨p, l, n, i0, rfl, _hR, _hn5, _hil, _k⟩ := h
    rfl
  · obtain ⟨p, l, n, i0, rfl, hR, hn5, hil, k⟩ := h
    have hu := hu_of hr
    refine ⟨_, (pss_cons (ps_if (PW.pt (pw_or (pt_not (pt_val (pe_call (ok_is_whole T) (hr.mono (by decide)) rfl T.g_is_whole T.F_is_whole.kp T.b_is_whole .nil pass0 (pa_cons (pv 1) (pa_cons pe_int pa_nil))))) (pw_or1 (pt_cmpR op_gt (pv 1) (pe_meth0 (pv 0) T.cl T.m_total (ok_Row_total T) (hr.mono (by decide)) T.b_Row_total .nil pass0) (nomark _))))) (pss_one ps_never) pss_nil)
      (pss_one (ps_ret (pe_call (ok_row_of T) (hr.mono (by decide)) rfl T.g_row_of T.F_row_of.kp T.b_row_of .nil pass0 (pa_cons (pe_call (ok_cut_front T) (hr.mono (by decide)) rfl T.g_cut_front T.F_cut_front.kp T.b_cut_front .nil pass0 (pa_cons (pe_meth0 (pv 0) T.cl T.m_runs (ok_Row_runs T) (hr.mono (by decide)) T.b_Row_runs .nil pass0) (pa_cons (pv 1) pa_nil))) pa_nil))))), ?_⟩
    have hR0 := hR
    obtain ⟨ss, hA, hF, hln, rfl⟩ := hR
    obtain ⟨dx, T0, xs0, g1, g2, g3⟩ := id hA
    refine ⟨_, rfl, tcI ⟨_, _, rfl, _, rfl, ?_⟩⟩
    rw [decide_eq_true (by omega : (0 : Int) ≤ (i0 : Int))]
    refine iteF ⟨_, rfl, _, rfl, p, dx, _, rfl, g1, rfl, p, ss, rfl, hA, hF, fun H1 s1 => ⟨_, _, rfl, rfl, _, rfl, ifF (decide_eq_false (by omega)) ?_⟩⟩
    have hrl := runs_len ss
    have hcl := cutF_len (RM.runs ss) i0
    refine ⟨_, rfl, p, dx, _, rfl, s1 _ _ g1, rfl, p, ss, rfl, hA.same s1, hF, fun a H2 s2 ha hr2 => ?_⟩
    refine ⟨_, rfl, a, _, i0, rfl, hr2, hF.runs, fun a2 H3 s3 hr3 => ⟨a2, _, rfl, hr3, hF.runs.cutF i0, by omega, fun q H4 s4 hq hrow => ?_⟩⟩
    rw [RM.cutF_flat _ _ hF.runs.good] at hrow
    exact k q H4 (((s1.trans s2).trans s3).trans s4) (fresh_back ((s1.trans s2).trans s3) hq) (hrow.mono (by omega))
end
end R4
set_option Elab.async false
set_option linter.all false
set_option maxRecDepth 100000
set_option maxHeartbeats 4000000
namespace R4
open PySem L2 PySem.GW
open RM (Rn)
section
variable {w : World} {K : PySem.W.Frag} {mg : Str → Option Value} {base : Heap}

theorem Top.ty (T : Top K mg) {H : Hp} {p : Addr} {l : List Int} {n : Nat} (h : RowOf K H p l n) : TyX K H (.ref p) (.ref (cR K)) := by
  obtain ⟨ss, ⟨dx, T0, vs, h1, _⟩, _⟩ := h
  exact .base (.ins h1 T.cl T.i_cls T.i_get T.i_tk T.i_mro)
def spAsRow (K : PySem.W.Frag) : Sp := fun vs H Q _ => ∃ (p : Addr), vs = [.ref p] ∧ ((∃ l n, RowOf K H p l n ∧ Q (.ref p) H) ∨ (∃ ns : List Int, Sq K H p (ns.map V.int) ∧ ns.length ≤ 100000 ∧ ∀ q H', Same H H' → H q = none → RowOf K H' q ns 2 → Q (.ref q) H'))
theorem tup_of {H : Hp} {p : Addr} {xs : List V} {Q : VK} (h : Sq K H p xs) (k : ∀ q H', Same H H' → SqT K H' q xs → Q (.ref q) H') : rTupOf K [.ref p] H Q := by
  rcases h with h | h
  · exact ⟨p, xs, rfl, .inl ⟨h, fun l hl => k l _ (same_upd hl) (SqT.of upd_same)⟩⟩
  · exact ⟨p, xs, rfl, .inr ⟨h, k p H (Same.refl _) h⟩⟩

theorem ok_as_row (T : Top K mg) : FnOk PW w K mg base CX0 10 (fa K "as_row") (fdOf K (fa K "as_row")) ["value"] (spAsRow K) := by
  refine T.F_as_row.ok sc_as_row (fun vs H Q E h => ?_) (fun cdv A outer s H vs Q E hr h => ?_)
  · obtain ⟨p, rfl, _hh⟩ := h
    rfl
  · obtain ⟨p, rfl, hh⟩ := h
    have hu := hu_of hr
    refine ⟨_, (pss_cons (ps_if (pt_val (pe_callB call_isi (by rfl) T.z_isinstance (by decide +kernel) (pa_cons (pv 0) (pa_cons (pe_glob (v := .ref (He.ga K "Row")) rfl T.g_Row rfl) pa_nil)))) (pss_one (ps_ret (pv 0))) pss_nil)
      (pss_cons (ps_if (pt_not (pt_val (pe_call (ok_is_row T) (hr.mono (by decide)) rfl T.g_is_row T.F_is_row.kp T.b_is_row .nil pass0 (pa_cons (pv 0) pa_nil)))) (pss_one ps_never) pss_nil)
      (pss_one (ps_ret (pe_call (ok_row_of T) (hr.mono (by decide)) rfl T.g_row_of T.F_row_of.kp T.b_row_of .nil pass0 (pa_cons (pe_ifExp (pt_cmpR op_gt (pe_callB call_len_seq (by rfl) T.z_len (by decide +kernel) (pa_cons (pv 0) pa_nil)) pe_int (nomark _)) (pe_lst (pa_cons (pe_tup (pa_cons (pe_callTy call_tuple_of (by rfl) T.z_tuple (by decide +kernel) (pa_cons (pv 0) pa_nil)) (pa_cons (pe_callB call_len_seq (by rfl) T.z_len (by decide +kernel) (pa_cons (pv 0) pa_nil)) pa_nil))) pa_nil)) (pe_lst pa_nil)) pa_nil)))))), ?_⟩
    rcases hh with ⟨l, n, hR, k⟩ | ⟨ns, hS, hl, k⟩
    · exact ⟨_, rfl, _, _, _, _, true, rfl, .own _, T.ty hR, T.k_row, _, rfl, iteT ⟨_, rfl, k⟩⟩
    · obtain ⟨tn, htn, hkn⟩ : ∃ tn, TyX K H (.ref p) (.type tn) ∧ PySem.W.kitOne K (.type tn) (.ref (cR K)) = some false := hS.elim (fun h => ⟨_, ty_lst h, T.k_list⟩) (fun h => ⟨_, ty_tup h, T.k_tuple⟩)
      refine ⟨_, rfl, _, _, _, _, false, rfl, .own _, htn, hkn, _, rfl, iteF ?_⟩
      have hln : ((ns.map V.int).length : Int) = ns.length := by rw [List.length_map]
      refine ⟨_, rfl, p, ns, rfl, hS, hl, fun H1 s1 => ⟨_, rfl, iteF ?_⟩⟩
      have hS1 := Same.sq s1 hS
      refine ⟨_, rfl, p, _, rfl, hS1, tcI ⟨_, _, rfl, rfl, _, rfl, ?_⟩⟩
      by_cases hc : 0 < ns.length
      · have hne : ns ≠ [] := List.length_pos_iff.mp hc
        refine ifT (decide_eq_true (by omega)) ?_
        rcases id hS1 with hA | hA
        · refine ⟨_, rfl, p, _, rfl, .inl ⟨hA, fun q2 hq2n => ?_⟩⟩
          have s2 := same_upd (o := .tup (ns.map V.int)) hq2n
          have hq2 : SqT K (upd H1 q2 (.tup (ns.map V.int))) q2 (ns.map V.int) := SqT.of upd_same
          refine ⟨_, rfl, p, _, rfl, Same.sq s2 hS1, Nat.le_of_ble_eq_true rfl, fun p4 h4 => ⟨Nat.le_of_ble_eq_true rfl, fun p5 h5 => ?_⟩⟩
          have s4 := same_upd (o := .tup [.ref q2, .int ((ns.map V.int).length : Int)]) h4
          have s45 := s4.trans (same_upd (o := .lst [.ref p4]) h5)
          have s5 := s1.trans (s2.trans s45)
          refine ⟨p5, [(ns, ns.length)], rfl, ⟨_, SqL.of upd_same, .cons ⟨p4, q2, rfl, SqT.of (same_upd h5 _ _ ?_), Same.seqT s45 hq2⟩ .nil⟩, ⟨Nat.le_of_ble_eq_true rfl, fun r hr => ?_⟩, Nat.le_of_ble_eq_true rfl, fun q H2 s2 hq hrow => k q H2 (s5.trans s2) (fresh_back s5 hq) ?_⟩
          · rw [upd_same, hln]
          · rw [List.mem_singleton.mp hr]; exact ⟨hne, hl⟩
          · rw [RM.flat_cons, RM.flat_nil, List.append_nil, RM.rep_short _ _ (Nat.le_refl _), List.take_length] at hrow
            exact hrow
        · refine ⟨_, rfl, p, _, rfl, .inr ⟨hA, ?_⟩⟩
          have s2 := Same.refl H1
          have hq2 := hA
          refine ⟨_, rfl, p, _, rfl, Same.sq s2 hS1, Nat.le_of_ble_eq_true rfl, fun p4 h4 => ⟨Nat.le_of_ble_eq_true rfl, fun p5 h5 => ?_⟩⟩
          have s4 := same_upd (o := .tup [.ref p, .int ((ns.map V.int).length : Int)]) h4
          have s45 := s4.trans (same_upd (o := .lst [.ref p4]) h5)
          have s5 := s1.trans (s2.trans s45)
          refine ⟨p5, [(ns, ns.length)], rfl, ⟨_, SqL.of upd_same, .cons ⟨p4, p, rfl, SqT.of (same_upd h5 _ _ ?_), Same.seqT s45 hq2⟩ .nil⟩, ⟨Nat.le_of_ble_eq_true rfl, fun r hr => ?_⟩, Nat.le_of_ble_eq_true rfl, fun q H2 s2 hq hrow => k q H2 (s5.trans s2) (fresh_back s5 hq) ?_⟩
          · rw [upd_same, hln]
          · rw [List.mem_singleton.mp hr]; exact ⟨hne, hl⟩
          · rw [RM.flat_cons, RM.flat_nil, List.append_nil, RM.rep_short _ _ (Nat.le_refl _), List.take_length] at hrow
            exact hrow
      · have hnil : ns = [] := List.eq_nil_of_length_eq_zero (by omega)
        refine ifF (decide_eq_false (by omega)) ⟨Nat.zero_le _, fun p5 h5 => ?_⟩
        have s5 := s1.trans (same_upd (o := .lst []) h5)
        refine ⟨p5, [], rfl, ⟨_, SqL.of upd_same, .nil⟩, ⟨by decide, fun r hr => nomatch hr⟩, by decide, fun q H2 s2 hq hrow => k q H2 (s5.trans s2) (fresh_back s5 hq) ?_⟩
        rw [hnil]
        exact hrow.mono (by decide)

theorem run_at {r : Rn} {rs : List Rn} {i : Nat} (h : i < r.2) : (RM.flat (r :: rs))[i]? = some (r.1.getD (i % r.1.length) 0) := by
  rw [RM.flat_cons, List.getElem?_append_left (by rw [RM.rep_length]; exact h), RM.rep_at _ h]
theorem lcp_here {r t : Rn} {rs ts : List Rn} {k : Nat} (ag : ∀ j, j < k → r.1.getD (j % r.1.length) 0 = t.1.getD (j % t.1.length) 0) (h1 : k < r.2) (h2 : k < t.2) (hne : r.1.getD (k % r.1.length) 0 ≠ t.1.getD (k % t.1.length) 0) : RM.lcp (RM.flat (r :: rs)) (RM.flat (t :: ts)) = k := by
  have l1 := RM.flat_length (r :: rs)
  have l2 := RM.flat_length (t :: ts)
  rw [RM.ext_cons] at l1 l2
  refine RM.lcp_part _ _ k (fun i hi => ?_) (by omega) (by omega) ?_
  · rw [run_at (by omega), run_at (by omega), ag i hi]
  · rw [run_at h1, run_at h2]
    exact fun e => hne (Option.some.inj e)
theorem lcp_next {r t : Rn} {rs ts : List Rn} (hw : r.1 ≠ []) (ht : t.1 ≠ []) (ag : ∀ j, j < min (min r.2 t.2) (r.1.length + t.1.length) → r.1.getD (j % r.1.length) 0 = t.1.getD (j % t.1.length) 0) :
    RM.lcp (RM.flat (r :: rs)) (RM.flat (t :: ts)) = min r.2 t.2 + RM.lcp ((RM.flat (r :: rs)).drop (min r.2 t.2)) ((RM.flat (t :: ts)).drop (min r.2 t.2)) := by
  have l1 := RM.flat_length (r :: rs)
  have l2 := RM.flat_length (t :: ts)
  rw [RM.ext_cons] at l1 l2
  refine RM.lcp_on _ _ _ (fun i hi => ?_) (by omega) (by omega)
  rw [run_at (by omega), run_at (by omega)]
  by_cases hc : min r.2 t.2 ≤ r.1.length + t.1.length
  · rw [ag i (by omega)]
  · rw [RM.words_agree r.1 t.1 hw ht (fun j hj => ag j (by omega)) i]
theorem paired_cons {α β : Type} {R : α → β → Prop} {xs : List α} {ys : List β} (h : Paired R xs ys) (hx : xs ≠ []) : ∃ x xs' y ys', xs = x :: xs' ∧ ys = y :: ys' ∧ R x y ∧ Paired R xs' ys' := by
  cases h with
  | nil => exact absurd rfl hx
  | cons r t => exact ⟨_, _, _, _, rfl, rfl, r, t⟩
def spCommon (K : PySem.W.Frag) : Sp := fun vs H Q _ => ∃ (a b : Addr) (rs ts : List Rn), vs = [.ref a, .ref b] ∧ RunsAt K H a rs ∧ RunsAt K H b ts ∧ Fit rs ∧ Fit ts ∧ RM.Pos rs ∧ RM.Pos ts ∧ ∀ H', Same H H' → Q (.int (RM.lcp (RM.flat rs) (RM.flat ts) : Int)) H'

theorem ok_common_of (T : Top K mg) : FnOk PW w K mg base CX0 2 (fa K "common_of") (fdOf K (fa K "common_of")) ["one", "other"] (spCommon K) := by
  refine T.F_common_of.ok sc_common_of (fun vs H Q E h => ?_) (fun cdv A outer s H vs Q E hr h => ?_)
  · obtain ⟨a0, b0, rs0, ts0, rfl, _hA0, _hB0, _hf0, _hg0, _hp0, _hq0, _k⟩ := h
    rfl
  · obtain ⟨a0, b0, rs0, ts0, rfl, hA0, hB0, hf0, hg0, hp0, hq0, k⟩ := h
    have hu := hu_of hr
    refine ⟨_, (pss_cons (ps_set (i := 2) sc_common_of.nd rfl (Or.inl rfl) pe_int)
      (pss_cons (ps_while PassesOwn.never (PW.pt (pw_and (pt_truth (pv 0) (by intro _; rfl)) (pw_and1 (pt_truth (pv 1) (by intro _; rfl))))) (pss_cons (ps_asg (pe_ix ix_list (pv 0) pe_int (fun _ _ => rfl)) (pg_tup (by rfl) (pgs_cons (pg_name (i := 3) sc_common_of.nd rfl (Or.inl rfl)) (pgs_cons (pg_name (i := 4) sc_common_of.nd rfl (Or.inl rfl)) pgs_nil))))
      (pss_cons (ps_asg (pe_ix ix_list (pv 1) pe_int (fun _ _ => rfl)) (pg_tup (by rfl) (pgs_cons (pg_name (i := 5) sc_common_of.nd rfl (Or.inl rfl)) (pgs_cons (pg_name (i := 6) sc_common_of.nd rfl (Or.inl rfl)) pgs_nil))))
      (pss_cons (ps_set (i := 7) sc_common_of.nd rfl (Or.inl rfl) (pe_callB (call_min2 rfl) (by rfl) T.z_min (by decide +kernel) (pa_cons (pv 4) (pa_cons (pv 6) pa_nil))))
      (pss_cons (ps_for PassesOwn.never rfl (pi_range1 (by rfl) T.z_range (pa_cons (pe_callB (call_min2 rfl) (by rfl) T.z_min (by decide +kernel) (pa_cons (pv 7) (pa_cons (pe_op op_add (pe_callB call_len_seq (by rfl) T.z_len (by decide +kernel) (pa_cons (pv 3) pa_nil)) (pe_callB call_len_seq (by rfl) T.z_len (by decide +kernel) (pa_cons (pv 5) pa_nil))) pa_nil))) pa_nil)) (pg_name (i := 8) sc_common_of.nd rfl (Or.inl rfl)) (pss_one (ps_if (pt_cmpR op_ne (pe_ix ix_tup (pv 3) (pe_op op_mod (pv 8) (pe_callB call_len_seq (by rfl) T.z_len (by decide +kernel) (pa_cons (pv 3) pa_nil))) (fun _ _ => rfl)) (pe_ix ix_tup (pv 5) (pe_op op_mod (pv 8) (pe_callB call_len_seq (by rfl) T.z_len (by decide +kernel) (pa_cons (pv 5) pa_nil))) (fun _ _ => rfl)) (nomark _)) (pss_one (ps_ret (pe_op op_add (pv 2) (pv 8)))) pss_nil)))
      (pss_cons (ps_set (i := 2) sc_common_of.nd rfl (Or.inl rfl) (pe_op op_add (pv 2) (pv 7)))
      (pss_cons (ps_set (i := 0) sc_common_of.nd rfl (Or.inl rfl) (pe_call (ok_cut_front T) (hr.mono (by decide)) rfl T.g_cut_front T.F_cut_front.kp T.b_cut_front .nil pass0 (pa_cons (pv 0) (pa_cons (pv 7) pa_nil))))
      (pss_one (ps_set (i := 1) sc_common_of.nd rfl (Or.inl rfl) (pe_call (ok_cut_front T) (hr.mono (by decide)) rfl T.g_cut_front T.F_cut_front.kp T.b_cut_front .nil pass0 (pa_cons (pv 1) (pa_cons (pv 7) pa_nil))))))))))))
      (pss_one (ps_ret (pv 2))))), ?_⟩
    refine ⟨fun m σ H1 => Same H H1 ∧ ∃ (a b : Addr) (rs ts : List Rn) (same : Nat) (o3 o4 o5 o6 o7 o8 : Option V), σ = [some (.ref a), some (.ref b), some (.int (same : Int)), o3, o4, o5, o6, o7, o8] ∧ RunsAt K H1 a rs ∧ RunsAt K H1 b ts ∧ Fit rs ∧ Fit ts ∧ RM.Pos rs ∧ RM.Pos ts ∧ m = RM.ext rs + RM.ext ts ∧ RM.lcp (RM.flat rs0) (RM.flat ts0) = same + RM.lcp (RM.flat rs) (RM.flat ts), ⟨_, Same.refl _, a0, b0, rs0, ts0, 0, _, _, _, _, _, _, rfl, hA0, hB0, hf0, hg0, hp0, hq0, rfl, by omega⟩, ?_⟩
    rintro m σ H1 ⟨s1, a, b, rs, ts, same, o3, o4, o5, o6, o7, o8, rfl, hA, hB, hf, hg, hp, hq, rfl, he⟩
    obtain ⟨xs, hx, px⟩ := id hA
    obtain ⟨ys, hy, py⟩ := id hB
    have fin : RM.lcp (RM.flat rs) (RM.flat ts) = 0 → Q (.int (same : Int)) H1 := by
      intro h0
      have h1 := k H1 s1
      rw [he, h0] at h1
      exact h1
    refine ⟨_, rfl, _, .inl ⟨_, hx, rfl⟩, ?_⟩
    cases xs with
    | nil =>
      cases px
      exact ifF rfl (ifF rfl ⟨_, rfl, fin (RM.lcp_nil_left _)⟩)
    | cons x xs =>
    refine ifT rfl ⟨_, rfl, _, .inl ⟨_, hy, rfl⟩, ?_⟩
    cases ys with
    | nil =>
      cases py
      exact ifF rfl ⟨_, rfl, fin (RM.lcp_nil_right _)⟩
    | cons y ys =>
    cases px with
    | @cons _ r _ rs e1 px =>
    cases py with
    | @cons _ t _ ts e2 py =>
    obtain ⟨p1, wd, rfl, q1, q2⟩ := e1
    obtain ⟨p2, sg, rfl, u1, u2⟩ := e2
    obtain ⟨hw1, hw2⟩ := hf.2 r (List.mem_cons_self ..)
    obtain ⟨hv1, hv2⟩ := hg.2 t (List.mem_cons_self ..)
    have hrp := (hp r (List.mem_cons_self ..)).2
    have htp := (hq t (List.mem_cons_self ..)).2
    refine ifT rfl ⟨_, fun σ' H' h => h, ?_⟩
    refine ⟨_, rfl, a, _, _, _, rfl, rfl, hx, atI_nat (j := 0) rfl, p1, _, rfl, q1, rfl, _, _, rfl, _, _, rfl, rfl, ?_⟩
    refine ⟨_, rfl, b, _, _, _, rfl, rfl, hy, atI_nat (j := 0) rfl, p2, _, rfl, u1, rfl, _, _, rfl, _, _, rfl, rfl, ?_⟩
    refine ⟨_, rfl, _, rfl, _, _, rfl, ?_⟩
    rw [min_cast r.2 t.2]
    refine ⟨_, rfl, _, rfl, wd, _, rfl, .inr q2, _, rfl, sg, _, rfl, .inr u2, i0 (v := .int ((r.1.length + t.1.length : Nat) : Int)) (by rw [List.length_map, List.length_map]; push_cast; rfl) ⟨_, _, rfl, ?_⟩⟩
    rw [min_cast (min r.2 t.2) (r.1.length + t.1.length)]
    have hN : min (min r.2 t.2) (r.1.length + t.1.length) < 1000000 := by omega
    refine ⟨((min (min r.2 t.2) (r.1.length + t.1.length) : Nat) : Int), rfl, by omega, by omega, for_range (lo := 0) (n := min (min r.2 t.2) (r.1.length + t.1.length)) (fun i σ H2 => H2 = H1 ∧ (∃ o8, σ = [some (.ref a), some (.ref b), some (.int (same : Int)), some (.ref wd), some (.int (r.2 : Int)), some (.ref sg), some (.int (t.2 : Int)), some (.int ((min r.2 t.2 : Nat) : Int)), o8]) ∧ ∀ j, j < i → r.1.getD (j % r.1.length) 0 = t.1.getD (j % t.1.length) 0) ⟨rfl, ⟨_, rfl⟩, fun j hj => absurd hj (Nat.not_lt_zero _)⟩ ?_ ?_⟩
    · rintro i σ H2 hi ⟨rfl, ⟨o8, rfl⟩, ag⟩
      have hm1 := Nat.mod_lt i (List.length_pos_iff.mpr hw1)
      have hm2 := Nat.mod_lt i (List.length_pos_iff.mpr hv1)
      rw [Int.zero_add]
      refine ⟨_, rfl, _, rfl, _, rfl, wd, _, rfl, .inr q2, iC (by rw [List.length_map]; omega) (v := .int ((i % r.1.length : Nat) : Int)) (by rw [List.length_map]; exact congrArg V.int (mod_nat _ _)) ⟨wd, _, _, _, rfl, rfl, q2, atI_nat (sqT_at hm1), ?_⟩⟩
      refine ⟨_, rfl, _, rfl, _, rfl, sg, _, rfl, .inr u2, iC (by rw [List.length_map]; omega) (v := .int ((i % t.1.length : Nat) : Int)) (by rw [List.length_map]; exact congrArg V.int (mod_nat _ _)) ⟨sg, _, _, _, rfl, rfl, u2, atI_nat (sqT_at hm2), rfl, _, rfl, ?_⟩⟩
      by_cases hc : r.1.getD (i % r.1.length) 0 = t.1.getD (i % t.1.length) 0
      · refine ifF (nd (congrArg V.int hc)) ⟨rfl, ⟨_, rfl⟩, fun j hj => ?_⟩
        by_cases hji : j = i
        · rw [hji]; exact hc
        · exact ag j (by omega)
      · refine ifT (nn (fun e => hc (V.int.inj e))) ⟨_, rfl, _, rfl, i0 (v := .int ((same + i : Nat) : Int)) (by push_cast; rfl) ?_⟩
        have h1 := k _ s1
        rw [he, lcp_here ag (by omega) (by omega) hc] at h1
        exact h1
    · rintro σ H2 ⟨rfl, ⟨o8, rfl⟩, ag⟩
      have hnx := lcp_next (rs := rs) (ts := ts) hw1 hv1 ag
      rw [← RM.cutF_flat _ _ hf.good, ← RM.cutF_flat _ _ hg.good] at hnx
      refine ⟨_, rfl, _, rfl, i0 (v := .int ((same + min r.2 t.2 : Nat) : Int)) (by push_cast; rfl) ?_⟩
      refine ⟨_, rfl, _, rfl, a, r :: rs, min r.2 t.2, rfl, hA, hf, fun a2 H3 s3 hA3 => ?_⟩
      refine ⟨_, rfl, _, rfl, b, t :: ts, min r.2 t.2, rfl, hB.same s3, hg, fun b2 H4 s4 hB4 => ?_⟩
      have x1 := RM.flat_length (RM.cutF (r :: rs) (min r.2 t.2))
      have x2 := RM.flat_length (RM.cutF (t :: ts) (min r.2 t.2))
      rw [RM.cutF_flat _ _ hf.good, List.length_drop, RM.flat_length, RM.ext_cons] at x1
      rw [RM.cutF_flat _ _ hg.good, List.length_drop, RM.flat_length, RM.ext_cons] at x2
      refine ⟨_, ?_, s1.trans (s3.trans s4), a2, b2, _, _, same + min r.2 t.2, _, _, _, _, _, _, rfl, hA3.same s4, hB4, hf.cutF _, hg.cutF _, RM.cutF_pos _ _ hp, RM.cutF_pos _ _ hq, rfl, by rw [he, hnx, Nat.add_assoc]⟩
      rw [← x1, ← x2, RM.ext_cons, RM.ext_cons]
      omega
end
end R4
set_option Elab.async false
set_option linter.all false
set_option maxRecDepth 100000
set_option maxHeartbeats 4000000
namespace R4
open PySem L2 PySem.GW
open RM (Rn)
section
variable {w : World} {K : PySem.W.Frag} {mg : Str → Option Value} {base : Heap}

/-- a Row, or a tuple or a list of numbers -/
def RT (K : PySem.W.Frag) (H : Hp) (q : Addr) (l : List Int) (n : Nat) : Prop := RowOf K H q l n ∨ (Sq K H q (l.map V.int) ∧ l.length ≤ 100000 ∧ 2 ≤ n)
theorem RT.same {H H' : Hp} {q : Addr} {l : List Int} {n : Nat} (e : Same H H') (h : RT K H q l n) : RT K H' q l n := h.elim (fun h => .inl (h.same e)) fun ⟨h1, h2⟩ => .inr ⟨Same.sq e h1, h2⟩
theorem RT.as {H : Hp} {q : Addr} {l : List Int} {n : Nat} {Q : VK} {E : XK} (h : RT K H q l n) (k : ∀ q' H', Same H H' → RowOf K H' q' l n → Q (.ref q') H') : spAsRow K [.ref q] H Q E := by
  rcases h with h | ⟨h1, h2, h3⟩
  · exact ⟨q, rfl, .inl ⟨l, n, h, k q H (Same.refl _) h⟩⟩
  · exact ⟨q, rfl, .inr ⟨l, h1, h2, fun q' H' s _ hr => k q' H' s (hr.mono h3)⟩⟩
/-- a method asked of a Row: the parts of the rule -/
theorem nilI {σ : St} {H : Hp} {Q : List V → Hp → Prop} (h : Q [] H) : tNil σ H Q := h
theorem RowOf.ins {H : Hp} {p : Addr} {l : List Int} {n : Nat} (h : RowOf K H p l n) : ∃ dx T0, H p = some (.ins (cR K) dx [("stretches", .ref T0)]) := by
  obtain ⟨ss, ⟨dx, T0, vs, h1, _⟩, _⟩ := h
  exact ⟨dx, T0, h1⟩
/-- l before m -/
def befB (l m : List Int) : Bool := if RM.lcp l m = m.length then false else if RM.lcp l m = l.length then true else decide (l.getD (RM.lcp l m) 0 < m.getD (RM.lcp l m) 0)
theorem lcp_self : ∀ l : List Int, RM.lcp l l = l.length
  | [] => rfl
  | x :: l => by
    have h := RM.lcp_on 1 (x :: l) (x :: l) (fun _ _ => rfl) (by simp) (by simp)
    rw [h]
    show 1 + RM.lcp l l = _
    rw [lcp_self l, List.length_cons, Nat.add_comm]
theorem lcp_eq : ∀ (l m : List Int), RM.lcp l m = l.length → l.length = m.length → l = m
  | [], [], _, _ => rfl
  | [], _ :: _, _, h => by cases h
  | _ :: _, [], _, h => by cases h
  | x :: l, y :: m, h, e => by
    by_cases hxy : x = y
    · subst hxy
      have h1 := RM.lcp_on 1 (x :: l) (x :: m) (fun i hi => by rw [show i = 0 by omega]; rfl) (by simp) (by simp)
      rw [h] at h1
      have h2 : RM.lcp l m = l.length := by
        have : (x :: l).length = 1 + RM.lcp l m := h1
        rw [List.length_cons] at this
        omega
      rw [lcp_eq l m h2 (by simpa using e)]
    · have h1 := RM.lcp_part (x :: l) (y :: m) 0 (fun i hi => absurd hi (Nat.not_lt_zero _)) (by simp) (by simp) (by simpa using hxy)
      rw [h1] at h
      cases h
theorem Paired.app {α β : Type} {R : α → β → Prop} : ∀ {xs : List α} {ys : List β} {xs' : List α} {ys' : List β}, Paired R xs ys → Paired R xs' ys' → Paired R (xs ++ xs') (ys ++ ys')
  | _, _, _, _, .nil, h => h
  | _, _, _, _, .cons r t, h => .cons r (Paired.app t h)
def spCom (K : PySem.W.Frag) : Sp := fun vs H Q _ => ∃ (p q : Addr) (l m : List Int) (n : Nat), vs = [.ref p, .ref q] ∧ RowOf K H p l n ∧ RT K H q m n ∧ ∀ H', Same H H' → Q (.int (RM.lcp l m : Int)) H'
def spBef (K : PySem.W.Frag) : Sp := fun vs H Q _ => ∃ (p q : Addr) (l m : List Int) (n : Nat), vs = [.ref p, .ref q] ∧ RowOf K H p l n ∧ RT K H q m n ∧ ∀ H', Same H H' → Q (.bl (befB l m)) H'
def spAdd (K : PySem.W.Frag) : Sp := fun vs H Q _ => ∃ (p q : Addr) (l m : List Int) (n : Nat), vs = [.ref p, .ref q] ∧ RowOf K H p l n ∧ RT K H q m n ∧ n ≤ 20000 ∧ ∀ r H', Same H H' → H r = none → RowOf K H' r (l ++ m) (4 * n) → Q (.ref r) H'
def spEqR (K : PySem.W.Frag) : Sp := fun vs H Q _ => ∃ (p q : Addr) (l m : List Int) (n : Nat), vs = [.ref p, .ref q] ∧ RowOf K H p l n ∧ RowOf K H q m n ∧ ∀ H', Same H H' → Q (.bl (decide (l = m))) H'

theorem ok_Row_common (T : Top K mg) : FnOk PW w K mg base CX0 11 (me K "common") (fdOf K (me K "common")) ["self", "other"] (spCom K) := by
  refine T.F_Row_common.ok sc_Row_common (fun vs H Q E h => ?_) (fun cdv A outer s H vs Q E hr h => ?_)
  · obtain ⟨p, q, l, m, n, rfl, _hR, _hM, _k⟩ := h
    rfl
  · obtain ⟨p, q, l, m, n, rfl, hR, hM, k⟩ := h
    have hu := hu_of hr
    refine ⟨_, (pss_one (ps_ret (pe_call (ok_common_of T) (hr.mono (by decide)) rfl T.g_common_of T.F_common_of.kp T.b_common_of .nil pass0 (pa_cons (pe_meth0 (pv 0) T.cl T.m_runs (ok_Row_runs T) (hr.mono (by decide)) T.b_Row_runs .nil pass0) (pa_cons (pe_meth0 (pe_call (ok_as_row T) (hr.mono (by decide)) rfl T.g_as_row T.F_as_row.kp T.b_as_row .nil pass0 (pa_cons (pv 1) pa_nil)) T.cl T.m_runs (ok_Row_runs T) (hr.mono (by decide)) T.b_Row_runs .nil pass0) pa_nil))))), ?_⟩
    obtain ⟨dx, T0, g1⟩ := RowOf.ins hR
    obtain ⟨ss, hA, hF, hln, hl⟩ := id hR
    refine ⟨_, rfl, p, dx, _, rfl, g1, rfl, p, ss, rfl, hA, hF, fun a H1 s1 ha hr1 => ?_⟩
    refine ⟨_, rfl, nilI ?_⟩
    refine (hM.same s1).as fun q' H2 s2 hq => ?_
    obtain ⟨dx2, T2, g2⟩ := hq.ins
    obtain ⟨ss2, hA2, hF2, hln2, hl2⟩ := id hq
    refine ⟨q', dx2, _, rfl, g2, rfl, q', ss2, rfl, hA2, hF2, fun a2 H3 s3 ha2 hr2 => ?_⟩
    refine ⟨a, a2, _, _, rfl, hr1.same (s2.trans s3), hr2, hF.runs, hF2.runs, RM.runs_pos _ hF.good, RM.runs_pos _ hF2.good, fun H4 s4 => ?_⟩
    have e := k H4 ((s1.trans (s2.trans s3)).trans s4)
    rw [← hl, ← hl2] at e
    exact e
theorem ok_Row_before (T : Top K mg) : FnOk PW w K mg base CX0 11 (me K "before") (fdOf K (me K "before")) ["self", "other"] (spBef K) := by
  refine T.F_Row_before.ok sc_Row_before (fun vs H Q E h => ?_) (fun cdv A outer s H vs Q E hr h => ?_)
  · obtain ⟨p, q, l, m, n, rfl, _hR, _hM, _k⟩ := h
    rfl
  · obtain ⟨p, q, l, m, n, rfl, hR, hM, k⟩ := h
    have hu := hu_of hr
    refine ⟨_, (pss_cons (ps_set (i := 1) sc_Row_before.nd rfl (Or.inl rfl) (pe_call (ok_as_row T) (hr.mono (by decide)) rfl T.g_as_row T.F_as_row.kp T.b_as_row .nil pass0 (pa_cons (pv 1) pa_nil)))
      (pss_cons (ps_set (i := 2) sc_Row_before.nd rfl (Or.inl rfl) (pe_call (ok_common_of T) (hr.mono (by decide)) rfl T.g_common_of T.F_common_of.kp T.b_common_of .nil pass0 (pa_cons (pe_meth0 (pv 0) T.cl T.m_runs (ok_Row_runs T) (hr.mono (by decide)) T.b_Row_runs .nil pass0) (pa_cons (pe_meth0 (pv 1) T.cl T.m_runs (ok_Row_runs T) (hr.mono (by decide)) T.b_Row_runs .nil pass0) pa_nil))))
      (pss_cons (ps_if (pt_cmpR op_eq (pv 2) (pe_meth0 (pv 1) T.cl T.m_total (ok_Row_total T) (hr.mono (by decide)) T.b_Row_total .nil pass0) (nomark _)) (pss_one (ps_ret pe_bl)) pss_nil)
      (pss_one (ps_ret (pe_or (pe_cmpR op_eq (pv 2) (pe_meth0 (pv 0) T.cl T.m_total (ok_Row_total T) (hr.mono (by decide)) T.b_Row_total .nil pass0) (nomark _)) (pe_one (pe_cmpR op_lt (pe_meth (pv 0) T.cl T.m_bud (ok_Row_bud T) (hr.mono (by decide)) T.b_Row_bud .nil pass0 (pa_cons (pv 2) pa_nil)) (pe_meth (pv 1) T.cl T.m_bud (ok_Row_bud T) (hr.mono (by decide)) T.b_Row_bud .nil pass0 (pa_cons (pv 2) pa_nil)) (nomark _))))))))), ?_⟩
    obtain ⟨dx, T0, g1⟩ := RowOf.ins hR
    obtain ⟨ss, hA, hF, hln, hl⟩ := id hR
    refine ⟨_, rfl, nilI ?_⟩
    refine hM.as fun q' H0 s0 hq => ?_
    obtain ⟨dx2, T2, g2⟩ := hq.ins
    obtain ⟨ss2, hA2, hF2, hln2, hl2⟩ := id hq
    refine ⟨_, rfl, p, dx, _, rfl, s0 _ _ g1, rfl, p, ss, rfl, hA.same s0, hF, fun a H1 s1 ha hr1 => ?_⟩
    refine ⟨_, rfl, q', dx2, _, rfl, s1 _ _ g2, rfl, q', ss2, rfl, hA2.same s1, hF2, fun a2 H3 s3 ha2 hr2 => ?_⟩
    refine ⟨a, a2, _, _, rfl, hr1.same s3, hr2, hF.runs, hF2.runs, RM.runs_pos _ hF.good, RM.runs_pos _ hF2.good, fun H4 s4 => ?_⟩
    have e0 : RM.lcp (RM.flat (RM.runs ss)) (RM.flat (RM.runs ss2)) = RM.lcp l m := by rw [← hl, ← hl2]; rfl
    rw [e0]
    have sq := s1.trans (s3.trans s4)
    refine ⟨_, rfl, _, rfl, q', dx2, _, rfl, sq _ _ g2, rfl, q', ss2, rfl, hA2.same sq, hF2, fun H5 s5 => ?_⟩
    rw [hl2]
    refine ⟨rfl, _, rfl, ?_⟩
    have sA := s0.trans (sq.trans s5)
    have fin : ∀ H', Same H H' → ∀ b : Bool, befB l m = b → Q (.bl b) H' := fun H' s' b eb => eb ▸ k H' s'
    have le1 := RM.lcp_le_left l m
    have le2 := RM.lcp_le_right l m
    by_cases c1 : RM.lcp l m = m.length
    · exact ifT (decide_eq_true (by rw [c1])) (tcI (fin _ sA _ (by unfold befB; rw [if_pos c1])))
    refine ifF (decide_eq_false (fun e => c1 (by have := V.int.inj e; omega))) ?_
    refine ⟨_, rfl, _, rfl, p, dx, _, rfl, sA _ _ g1, rfl, p, ss, rfl, hA.same sA, hF, fun H6 s6 => ?_⟩
    rw [hl]
    refine ⟨rfl, _, rfl, ?_⟩
    by_cases c2 : RM.lcp l m = l.length
    · refine ifT (decide_eq_true (by rw [c2])) ?_
      exact fin _ (sA.trans s6) _ (by unfold befB; rw [if_neg c1, if_pos c2])
    refine ifF (decide_eq_false (fun e => c2 (by have := V.int.inj e; omega))) ?_
    have sB := sA.trans s6
    have gl : ∀ {z : List Int} {i : Nat}, i < z.length → z[i]? = some (z.getD i 0) := by
      intro z i h
      rw [List.getD_eq_getElem?_getD, List.getElem?_eq_getElem h]; rfl
    refine ⟨_, rfl, p, dx, _, rfl, sB _ _ g1, rfl, _, rfl, p, l, n, _, _, rfl, hR.same sB, gl (by omega), fun H7 s7 => ?_⟩
    have sC := (sq.trans (s5.trans s6)).trans s7
    refine ⟨_, rfl, q', dx2, _, rfl, sC _ _ g2, rfl, _, rfl, q', m, n, _, _, rfl, hq.same sC, gl (by omega), fun H8 s8 => ?_⟩
    exact ⟨_, _, rfl, rfl, fin _ ((sB.trans s7).trans s8) _ (by unfold befB; rw [if_neg c1, if_neg c2])⟩
theorem ok_Row___add__ (T : Top K mg) : FnOk PW w K mg base CX0 11 (me K "__add__") (fdOf K (me K "__add__")) ["self", "other"] (spAdd K) := by
  refine T.F_Row___add__.ok sc_Row___add__ (fun vs H Q E h => ?_) (fun cdv A outer s H vs Q E hr h => ?_)
  · obtain ⟨p, q, l, m, n, rfl, _hR, _hM, _hn, _k⟩ := h
    rfl
  · obtain ⟨p, q, l, m, n, rfl, hR, hM, hn, k⟩ := h
    have hu := hu_of hr
    refine ⟨_, (pss_one (ps_ret (pe_call (ok_row_of T) (hr.mono (by decide)) rfl T.g_row_of T.F_row_of.kp T.b_row_of .nil pass0 (pa_cons (pe_op op_cat (pe_meth0 (pv 0) T.cl T.m_runs (ok_Row_runs T) (hr.mono (by decide)) T.b_Row_runs .nil pass0) (pe_meth0 (pe_call (ok_as_row T) (hr.mono (by decide)) rfl T.g_as_row T.F_as_row.kp T.b_as_row .nil pass0 (pa_cons (pv 1) pa_nil)) T.cl T.m_runs (ok_Row_runs T) (hr.mono (by decide)) T.b_Row_runs .nil pass0)) pa_nil)))), ?_⟩
    obtain ⟨dx, T0, g1⟩ := RowOf.ins hR
    obtain ⟨ss, hA, hF, hln, hl⟩ := id hR
    refine ⟨_, rfl, p, dx, _, rfl, g1, rfl, p, ss, rfl, hA, hF, fun a H1 s1 ha hr1 => ?_⟩
    refine ⟨_, rfl, nilI ?_⟩
    refine (hM.same s1).as fun q' H2 s2 hq => ?_
    obtain ⟨dx2, T2, g2⟩ := hq.ins
    obtain ⟨ss2, hA2, hF2, hln2, hl2⟩ := id hq
    refine ⟨q', dx2, _, rfl, g2, rfl, q', ss2, rfl, hA2, hF2, fun a2 H3 s3 ha2 hr2 => ?_⟩
    obtain ⟨vs1, f1, f2⟩ := RunsL.same (s2.trans s3) ha.2
    obtain ⟨vs2, f3, f4⟩ := ha2.2
    have l1 : vs1.length = (RM.runs ss).length := Paired.length f2
    have l2 : vs2.length = (RM.runs ss2).length := Paired.length f4
    have l3 := runs_len ss
    have l4 := runs_len ss2
    refine ⟨a, a2, vs1, vs2, rfl, rfl, f1, f3, (by rw [sizeLine_eq]; omega), fun p5 h5 => ?_⟩
    have s5 := same_upd (o := .lst (vs1 ++ vs2)) h5
    have s9 := s1.trans (s2.trans (s3.trans s5))
    have hl5 : (RM.runs ss ++ RM.runs ss2).length ≤ 2 * n := by rw [List.length_append]; omega
    refine ⟨p5, RM.runs ss ++ RM.runs ss2, rfl, ⟨_, SqL.of upd_same, Paired.app (Pairs.same s5 f2) (Pairs.same s5 f4)⟩, ⟨by omega, fun r hr => (List.mem_append.mp hr).elim (hF.runs.2 r) (hF2.runs.2 r)⟩, by omega, fun q9 H9 s10 hq9 hrow => ?_⟩
    rw [RM.flat_append] at hrow
    refine k q9 H9 (s9.trans s10) (fresh_back s9 hq9) ?_
    rw [← hl, ← hl2]
    exact hrow.mono (by omega)
theorem ok_Row___eq__ (T : Top K mg) : FnOk PW w K mg base CX0 3 (me K "__eq__") (fdOf K (me K "__eq__")) ["self", "other"] (spEqR K) := by
  refine T.F_Row___eq__.ok sc_Row___eq__ (fun vs H Q E h => ?_) (fun cdv A outer s H vs Q E hr h => ?_)
  · obtain ⟨p, q, l, m, n, rfl, _hR, _hM, _k⟩ := h
    rfl
  · obtain ⟨p, q, l, m, n, rfl, hR, hM, k⟩ := h
    have hu := hu_of hr
    refine ⟨_, (pss_cons (ps_if (pt_not (pt_val (pe_callB call_isi (by rfl) T.z_isinstance (by decide +kernel) (pa_cons (pv 1) (pa_cons (pe_glob (v := .ref (He.ga K "Row")) rfl T.g_Row rfl) pa_nil))))) (pss_one (ps_ret pe_bl)) pss_nil)
      (pss_cons (ps_set (i := 2) sc_Row___eq__.nd rfl (Or.inl rfl) (pe_meth0 (pv 0) T.cl T.m_runs (ok_Row_runs T) (hr.mono (by decide)) T.b_Row_runs .nil pass0))
      (pss_cons (ps_set (i := 3) sc_Row___eq__.nd rfl (Or.inl rfl) (pe_meth0 (pv 1) T.cl T.m_runs (ok_Row_runs T) (hr.mono (by decide)) T.b_Row_runs .nil pass0))
      (pss_one (ps_ret (pe_chain op_eq op_eq (pe_call (ok_extent_of T) (hr.mono (by decide)) rfl T.g_extent_of T.F_extent_of.kp T.b_extent_of .nil pass0 (pa_cons (pv 2) pa_nil)) (pe_call (ok_extent_of T) (hr.mono (by decide)) rfl T.g_extent_of T.F_extent_of.kp T.b_extent_of .nil pass0 (pa_cons (pv 3) pa_nil)) (pe_call (ok_common_of T) (hr.mono (by decide)) rfl T.g_common_of T.F_common_of.kp T.b_common_of .nil pass0 (pa_cons (pv 2) (pa_cons (pv 3) pa_nil))))))))), ?_⟩
    obtain ⟨dx, T0, g1⟩ := RowOf.ins hR
    obtain ⟨ss, hA, hF, hln, hl⟩ := id hR
    obtain ⟨dx2, T2, g2⟩ := RowOf.ins hM
    obtain ⟨ss2, hA2, hF2, hln2, hl2⟩ := id hM
    refine ⟨_, rfl, _, _, _, _, true, rfl, .own _, T.ty hM, T.k_row, _, rfl, iteF ?_⟩
    refine ⟨_, rfl, p, dx, _, rfl, g1, rfl, p, ss, rfl, hA, hF, fun a H1 s1 ha hr1 => ?_⟩
    refine ⟨_, rfl, q, dx2, _, rfl, s1 _ _ g2, rfl, q, ss2, rfl, hA2.same s1, hF2, fun a2 H3 s3 ha2 hr2 => ?_⟩
    refine ⟨_, rfl, a, _, rfl, hr1.same s3, hF.runs.1, fun H4 s4 => ?_⟩
    refine ⟨_, rfl, a2, _, rfl, hr2.same s4, hF2.runs.1, fun H5 s5 => ?_⟩
    rw [← RM.flat_length, ← RM.flat_length]
    have e1 : RM.flat (RM.runs ss) = l := hl
    have e2 : RM.flat (RM.runs ss2) = m := hl2
    rw [e1, e2]
    have sA := s1.trans (s3.trans (s4.trans s5))
    refine ⟨rfl, _, rfl, ?_⟩
    by_cases c1 : l.length = m.length
    · refine ifT (decide_eq_true (by rw [c1])) ?_
      refine ⟨_, rfl, _, rfl, a, a2, _, _, rfl, hr1.same (s3.trans (s4.trans s5)), hr2.same (s4.trans s5), hF.runs, hF2.runs, RM.runs_pos _ hF.good, RM.runs_pos _ hF2.good, fun H6 s6 => ⟨rfl, ?_⟩⟩
      have h1 := k H6 (sA.trans s6)
      have e3 : decide (V.int (m.length : Int) = V.int (RM.lcp (RM.flat (RM.runs ss)) (RM.flat (RM.runs ss2)) : Int)) = decide (l = m) := by
        rw [e1, e2]
        by_cases c2 : l = m
        · subst c2
          rw [lcp_self, decide_eq_true rfl, decide_eq_true rfl]
        · rw [decide_eq_false c2, decide_eq_false (fun h => c2 (lcp_eq l m (by have := V.int.inj h; omega) c1))]
      rw [e3]
      exact h1
    · refine ifF (decide_eq_false (fun e => c1 (by have := V.int.inj e; omega))) ?_
      have h1 := k H5 sA
      rw [decide_eq_false (fun h => c1 (by rw [h]))] at h1
      exact h1
end
end R4
set_option Elab.async false
set_option linter.all false
set_option maxRecDepth 100000
set_option maxHeartbeats 4000000
namespace R4
open PySem L2 PySem.GW
open RM (Rn)
section
variable {w : World} {K : PySem.W.Frag} {mg : Str → Option Value} {base : Heap}

theorem _root_.L2.FunD.okN {x qual : Str} {params : Arguments} {body : List Stmt} {scope : Scope} {dvs : List V} {kws : List (Str × V)} {f : Addr} {fd : FuncData} {N ps : List Str} {k : Nat} {sp : Sp} (F : FunD K x qual params body scope dvs kws f fd) (S : FnScope N ps scope) (len : ∀ vs H Q E, sp vs H Q E → vs.length = ps.length)
    (hbody : ∀ (cdv : Value) (A : Around) (outer : List Env) (s : Shared) (H : Hp) (vs : List V) (Q : VK) (E : XK), Room k (A.deeper (PyProof.Rows.envOfC qual scope s.heap.objs.size f cdv)) → sp vs H Q E →
      ∃ t, PSs (cxOf CX0 PW w K mg base N qual scope f cdv A outer s H E).nox body t ∧ t { nx := fun _ H' => Q .non H', rt := Q } (start N vs) H) : FnOk PW w K mg base CX0 (k + 1) f fd ps sp :=
  F.ok S len fun cdv A outer s H vs Q E hr hsp => by
    obtain ⟨t, h, q⟩ := hbody cdv A outer s H vs Q E hr hsp
    exact ⟨t, h.nox, q⟩
theorem rep_flatten (w : List Int) : ∀ t : Nat, (List.replicate t w).flatten = RM.rep w (w.length * t)
  | 0 => rfl
  | t + 1 => by
    rw [List.replicate_succ', List.flatten_append, rep_flatten w t, Nat.mul_succ, RM.rep_add, RM.rep_short w w.length (Nat.le_refl _), List.take_length]
    simp
theorem map_flatten (w : List Int) (t : Nat) : (List.replicate t (w.map V.int)).flatten = (RM.rep w (w.length * t)).map V.int := by
  rw [← rep_flatten, List.map_flatten, List.map_replicate]
def spPlain (K : PySem.W.Frag) : Sp := fun vs H Q _ => ∃ (p : Addr) (l : List Int) (n : Nat) (most : Nat), vs = [.ref p, .int (most : Int)] ∧ RowOf K H p l n ∧ l.length ≤ most ∧ most ≤ 100000 ∧ ∀ q H', Same H H' → SqT K H' q (l.map V.int) → Q (.ref q) H'
def spBudX (K : PySem.W.Frag) : Sp := fun vs H _ E => ∃ (p : Addr) (l : List Int) (n i : Nat), vs = [.ref p, .int (i : Int)] ∧ RowOf K H p l n ∧ l.length ≤ i ∧ ∀ d H', Same H H' → H' d = some (.xd [("number", .int (i : Int))]) → E (.ref (He.ga K "OutsideRow")) (some d) H'
def spBegX (K : PySem.W.Frag) : Sp := fun vs H _ E => ∃ (p : Addr) (l : List Int) (n i : Nat), vs = [.ref p, .int (i : Int)] ∧ RowOf K H p l n ∧ l.length < i ∧ ∀ d H', Same H H' → H' d = some (.xd [("number", .int (i : Int))]) → E (.ref (He.ga K "OutsideRow")) (some d) H'
def spPlainX (K : PySem.W.Frag) : Sp := fun vs H _ E => ∃ (p : Addr) (l : List Int) (n : Nat) (most : Nat), vs = [.ref p, .int (most : Int)] ∧ RowOf K H p l n ∧ most < l.length ∧ ∀ d H', Same H H' → H' d = some (.xd [("most", .int (most : Int))]) → E (.ref (He.ga K "TooMany")) (some d) H'

theorem okx_bud (T : Top K mg) : FnOk PW w K mg base (L2.CX PW w) 4 (me K "bud") (fdOf K (me K "bud")) ["self", "index"] (spBudX K) := by
  refine T.F_Row_bud.okX sc_Row_bud (fun vs H Q E h => ?_) (fun cdv A outer s H vs Q E hr h => ?_)
  · obtain ⟨p, l, n, i0, rfl, _hR, _hil, _k⟩ := h
    rfl
  · obtain ⟨p, l, n, i0, rfl, hR, hil, k⟩ := h
    have hu := hu_of hr
    have hrE : Room 3 _ := hr.mono (by decide)
    refine ⟨_, (pss_cons (ps_if (PW.pt (pw_or (pt_not (pt_val (pe_call (ok_is_whole T) (hr.mono (by decide)) rfl T.g_is_whole T.F_is_whole.kp T.b_is_whole .nil pass0 (pa_cons (pv 1) (pa_cons pe_int pa_nil))))) (pw_or1 (pt_cmpR op_ge (pv 1) (pe_meth0 (pv 0) T.cl T.m_total (ok_Row_total T) (hr.mono (by decide)) T.b_Row_total .nil pass0) (nomark _))))) (pss_one (ps_raise rfl (takes_of rfl rfl rfl rfl) (pmk_err (raises_own T.e_OutsideRow.z.hs T.e_OutsideRow.t) (per_pos T.e_OutsideRow.c T.e_OutsideRow.i hrE (by rfl) T.e_OutsideRow.g T.e_OutsideRow.k (eb_OutsideRow_1) (pa_cons (pv 1) pa_nil))))) pss_nil)
      (pss_cons ps_never
      (pss_cons ps_never
      (pss_one (ps_raise rfl (takes_of rfl rfl rfl rfl) (pmk_err (raises_own T.e_OutsideRow.z.hs T.e_OutsideRow.t) (per_pos T.e_OutsideRow.c T.e_OutsideRow.i hrE (by rfl) T.e_OutsideRow.g T.e_OutsideRow.k (eb_OutsideRow_1) (pa_cons (pv 1) pa_nil)))))))), ?_⟩
    have hR0 := hR
    obtain ⟨ss, hA, hF, hln, rfl⟩ := hR
    obtain ⟨dx, T0, xs0, g1, g2, g3⟩ := id hA
    refine ⟨_, rfl, tcI ⟨_, _, rfl, _, rfl, ?_⟩⟩
    rw [decide_eq_true (by omega : (0 : Int) ≤ (i0 : Int))]
    refine iteF ⟨_, rfl, _, rfl, p, dx, _, rfl, g1, rfl, p, ss, rfl, hA, hF, fun H1 s1 => ⟨_, _, rfl, rfl, _, rfl, ifT (decide_eq_true (by omega)) ⟨_, rfl, rfl, fun d hd => k d _ (s1.trans (same_upd hd)) upd_same⟩⟩⟩
theorem okx_beginning (T : Top K mg) : FnOk PW w K mg base (L2.CX PW w) 10 (me K "beginning") (fdOf K (me K "beginning")) ["self", "many"] (spBegX K) := by
  refine T.F_Row_beginning.okX sc_Row_beginning (fun vs H Q E h => ?_) (fun cdv A outer s H vs Q E hr h => ?_)
  · obtain ⟨p, l, n, i0, rfl, _hR, _hil, _k⟩ := h
    rfl
  · obtain ⟨p, l, n, i0, rfl, hR, hil, k⟩ := h
    have hu := hu_of hr
    have hrE : Room 3 _ := hr.mono (by decide)
    refine ⟨_, (pss_cons (ps_if (PW.pt (pw_or (pt_not (pt_val (pe_call (ok_is_whole T) (hr.mono (by decide)) rfl T.g_is_whole T.F_is_whole.kp T.b_is_whole .nil pass0 (pa_cons (pv 1) (pa_cons pe_int pa_nil))))) (pw_or1 (pt_cmpR op_gt (pv 1) (pe_meth0 (pv 0) T.cl T.m_total (ok_Row_total T) (hr.mono (by decide)) T.b_Row_total .nil pass0) (nomark _))))) (pss_one (ps_raise rfl (takes_of rfl rfl rfl rfl) (pmk_err (raises_own T.e_OutsideRow.z.hs T.e_OutsideRow.t) (per_pos T.e_OutsideRow.c T.e_OutsideRow.i hrE (by rfl) T.e_OutsideRow.g T.e_OutsideRow.k (eb_OutsideRow_1) (pa_cons (pv 1) pa_nil))))) pss_nil)
      (pss_cons ps_never
      (pss_cons ps_never
      (pss_cons ps_never
      (pss_one ps_never))))), ?_⟩
    have hR0 := hR
    obtain ⟨ss, hA, hF, hln, rfl⟩ := hR
    obtain ⟨dx, T0, xs0, g1, g2, g3⟩ := id hA
    refine ⟨_, rfl, tcI ⟨_, _, rfl, _, rfl, ?_⟩⟩
    rw [decide_eq_true (by omega : (0 : Int) ≤ (i0 : Int))]
    refine iteF ⟨_, rfl, _, rfl, p, dx, _, rfl, g1, rfl, p, ss, rfl, hA, hF, fun H1 s1 => ⟨_, _, rfl, rfl, _, rfl, ifT (decide_eq_true (by omega)) ⟨_, rfl, rfl, fun d hd => k d _ (s1.trans (same_upd hd)) upd_same⟩⟩⟩
theorem okx_plain (T : Top K mg) : FnOk PW w K mg base (L2.CX PW w) 4 (me K "plain") (fdOf K (me K "plain")) ["self", "most"] (spPlainX K) := by
  have F := T.D_plain
  refine F.ok sc_Row_plain (fun vs H Q E h => ?_) (fun cdv A outer s H vs Q E hr h => ?_)
  · obtain ⟨p, l, n, most, rfl, _hR, _hil, _k⟩ := h
    rfl
  · obtain ⟨p, l, n, most, rfl, hR, hil, k⟩ := h
    have hu := hu_of hr
    have hrE : Room 3 _ := hr.mono (by decide)
    refine ⟨_, (pss_cons (ps_if (pt_cmpR op_gt (pe_meth0 (pv 0) T.cl T.m_total (ok_Row_total T) (hr.mono (by decide)) T.b_Row_total .nil pass0) (pv 1) (nomark _)) (pss_one (ps_raise rfl (takes_of rfl rfl rfl rfl) (pmk_err (raises_own T.e_TooMany.z.hs T.e_TooMany.t) (per_pos T.e_TooMany.c T.e_TooMany.i hrE (by rfl) T.e_TooMany.g T.e_TooMany.k (eb_TooMany_1) (pa_cons (pv 1) pa_nil))))) pss_nil)
      (pss_cons ps_never
      (pss_cons ps_never
      (pss_one ps_never)))), ?_⟩
    have hR0 := hR
    obtain ⟨ss, hA, hF, hln, rfl⟩ := hR
    obtain ⟨dx, T0, xs0, g1, g2, g3⟩ := id hA
    refine ⟨_, rfl, p, dx, _, rfl, g1, rfl, p, ss, rfl, hA, hF, fun H1 s1 => ⟨_, rfl, _, _, rfl, rfl, _, rfl, ifT (decide_eq_true (by omega)) ⟨_, rfl, rfl, fun d hd => k d _ (s1.trans (same_upd hd)) upd_same⟩⟩⟩
theorem ok_Row_plain (T : Top K mg) : FnOk PW w K mg base CX0 3 (me K "plain") (fdOf K (me K "plain")) ["self", "most"] (spPlain K) := by
  have F := T.D_plain
  refine F.okN sc_Row_plain (fun vs H Q E h => ?_) (fun cdv A outer s H vs Q E hr h => ?_)
  · obtain ⟨p, l, n, most, rfl, _hR, _hil, _hm, _k⟩ := h
    rfl
  · obtain ⟨p, l, n, most, rfl, hR, hil, hm, k⟩ := h
    have hu := hu_of hr
    refine ⟨_, (pss_cons (ps_if (pt_cmpR op_gt (pe_meth0 (pv 0) T.cl T.m_total (ok_Row_total T) (hr.mono (by decide)) T.b_Row_total .nil pass0) (pv 1) (nomark _)) (pss_one ps_never) pss_nil)
      (pss_cons (ps_set (i := 2) sc_Row_plain.nd rfl (Or.inl rfl) (pe_lst pa_nil))
      (pss_cons (ps_for PassesOwn.never rfl (pi_tup (pe_fld (pv 0) rfl)) (pg_tup (by rfl) (pgs_cons (pg_name (i := 3) sc_Row_plain.nd rfl (Or.inl rfl)) (pgs_cons (pg_name (i := 4) sc_Row_plain.nd rfl (Or.inl rfl)) pgs_nil))) (pss_one (ps_expr (pe_bm PySem.F.plainAttrs_list PySem.F.slot_list_extend PySem.F.type_list_extend mt_extend (pv 2) (pa_cons (pe_op op_rep (pe_callTy call_list_of (by rfl) T.z_list (by decide +kernel) (pa_cons (pv 3) pa_nil)) (pv 4)) pa_nil)))))
      (pss_one (ps_ret (pe_callTy call_tuple_of (by rfl) T.z_tuple (by decide +kernel) (pa_cons (pv 2) pa_nil))))))), ?_⟩
    have hR0 := hR
    obtain ⟨ss, hA, hF, hln, rfl⟩ := hR
    obtain ⟨dx, T0, xs0, g1, g2, g3⟩ := id hA
    refine ⟨_, rfl, p, dx, _, rfl, g1, rfl, p, ss, rfl, hA, hF, fun H1 s1 => ⟨_, rfl, _, _, rfl, rfl, _, rfl, ifF (decide_eq_false (by omega)) ⟨Nat.zero_le _, fun D hD => ?_⟩⟩⟩
    have sD := s1.trans (same_upd (o := .lst []) hD)
    have hle : xs0.length = ss.length := Paired.length g3
    have hHD : H D = none := fresh_back s1 hD
    refine ⟨_, rfl, p, _, dx, _, _, rfl, sD _ _ g1, T.cl, T.nS, rfl, T0, rfl, ⟨_, Same.seqT sD g2⟩, for_tup (K := K) (a := T0) (xs := xs0) (fun i σ H3 => Same H H3 ∧ ∃ (o3 o4 : Option V), σ = [some (.ref p), some (.int (most : Int)), some (.ref D), o3, o4] ∧ H3 D = some (.lst ((RM.flatS (ss.take i)).map V.int))) ⟨sD, _, _, rfl, upd_same⟩ (fun i σ H3 _ ⟨s3, _⟩ => Same.seqT s3 g2) ?_ ?_⟩
    · rintro i x σ H3 hi ⟨s3, o3, o4, rfl, hD3⟩
      obtain ⟨r, hr1, q⟩ := paired_at g3 hi
      obtain ⟨p1, wd, rfl, q1, q2⟩ := q.same s3
      have hst : RM.flatS (ss.take (i + 1)) = RM.flatS (ss.take i) ++ RM.rep r.1 (r.1.length * r.2) := by rw [take_at hr1, RM.flatS_append, RM.flatS_one]
      have hwp : 0 < r.1.length := List.length_pos_iff.mpr (hF.2 r (List.mem_of_getElem? hr1)).1
      have htot : (RM.flatS (ss.take i)).length + r.1.length * r.2 ≤ 100000 := by
        have e : RM.flatS ss = RM.flatS (ss.take (i + 1)) ++ RM.flatS (ss.drop (i + 1)) := by rw [← RM.flatS_append, List.take_append_drop]
        have e2 := congrArg List.length e
        rw [hst, List.length_append, List.length_append, RM.rep_length] at e2
        omega
      have ht : r.2 ≤ r.1.length * r.2 := Nat.le_mul_of_pos_left _ hwp
      refine ⟨p1, _, rfl, q1, rfl, _, _, rfl, _, _, rfl, rfl, ?_⟩
      refine ⟨_, rfl, .inl ⟨rfl, _, SqL.of hD3⟩, _, rfl, wd, _, rfl, .inr q2, fun l1 hl1 => ⟨_, rfl, l1, (r.2 : Int), _, rfl, rfl, upd_same, by omega, by omega, ?_, fun l2 hl2 => ?_⟩⟩
      · rw [List.length_map, Int.toNat_natCast, sizeLine_eq]; omega
      · have s6 := (same_upd (o := .lst (r.1.map V.int)) hl1).trans (same_upd (o := .lst (List.replicate ((r.2 : Nat) : Int).toNat (r.1.map V.int)).flatten) hl2)
        refine ⟨D, l2, _, _, rfl, rfl, s6 _ _ hD3, upd_same, ?_, same_at hHD (s3.trans s6), _, _, rfl, ?_⟩
        · rw [Int.toNat_natCast, map_flatten, List.length_map, List.length_map, RM.rep_length, sizeLine_eq]; omega
        · rw [upd_same, hst, Int.toNat_natCast, map_flatten, List.map_append]
    · rintro σ H3 ⟨s3, o3, o4, rfl, hD3⟩
      rw [hle, List.take_length] at hD3
      exact ⟨_, rfl, D, _, rfl, .inl ⟨SqL.of hD3, fun l hl => k l _ (s3.trans (same_upd hl)) (SqT.of upd_same)⟩⟩
end
end R4
set_option Elab.async false
set_option linter.all false
set_option maxRecDepth 100000
set_option maxHeartbeats 4000000
/-! general: operators of own classes, several except clauses, lambdas handed to a def -/
namespace L2
open PySem PySem.Spec PySem.GW
/-- x op y, both of the class at C whose def for op is at g -/
def rOwnI (C : Addr) (sp : Sp) : R2 := fun x y H Q => ∃ a dx fs b dy gs, x = .ref a ∧ y = .ref b ∧ H a = some (.ins C dx fs) ∧ H b = some (.ins C dy gs) ∧ sp [x, y] H Q E0
theorem op_ownI {X : Cx} {C g : Addr} {fd : FuncData} {ps : List Str} {n : Nat} {sp : Sp} {op : CmpOp} (hop : ∀ a b, compareOp op a b = richCompare op a b) (hs : PySem.W.findIn X.K (.ref C) (cmpInfo op).2.1 = some (some (.ref g))) (hf : PySem.W.isFn X.K (.ref g) = true)
    (F : FnOk X.prog X.w X.K X.mg X.base CX0 n g fd ps sp) (hb : Binds X.K fd ps []) (hr : Room n X.A) : OpR X (compareOp op) (rOwnI C sp) := by
  intro pins s σ H x y v u Q I rx ry h
  obtain ⟨a, dx, fs, b, dy, gs, rfl, rfl, ha, hb2, q⟩ := h
  cases (show v = Value.ref a from rx)
  cases (show u = Value.ref b from ry)
  obtain ⟨mA, O, _⟩ := ins_get I.hok ha
  obtain ⟨od, J, _⟩ := O.look
  obtain ⟨mA', O', _⟩ := ins_get I.hok hb2
  obtain ⟨od', J', _⟩ := O'.look
  obtain ⟨m, hF⟩ := I.fr
  rw [hop]
  refine PySem.W.cmp_K (op := op) (tb := .ref C) hr.units0 hF I.ok.mod.kin J J'.type (by simp [PySem.W.notFirst]) hs hf ?_
  refine wpAny_mono (run_fn (us := [.ref a, .ref b]) (vs := [.ref a, .ref b]) (dvs := []) (ds := []) F hr hb .nil pass0 I (.cons rfl (.cons rfl .nil)) q) (fun w s' z => ?_) fun _ _ x => x
  obtain ⟨z', H', I', rz, qz⟩ := z
  exact SlX.cmpback rz ⟨z', H', I', rz, qz⟩
/-- x + y, both of the class at C -/
theorem bop_ownI {X : Cx} {C g : Addr} {fd : FuncData} {ps : List Str} {n : Nat} {sp : Sp} {op : Operator} (hc : PySem.W.selfFirst X.K C = true) (hs : PySem.W.findIn X.K (.ref C) (PySem.dunder op.info.2) = some (some (.ref g))) (hf : PySem.W.isFn X.K (.ref g) = true)
    (F : FnOk X.prog X.w X.K X.mg X.base CX0 n g fd ps sp) (hb : Binds X.K fd ps []) (hr : Room n X.A) : OpR X (binaryOp op) (rOwnI C sp) := by
  intro pins s σ H x y v u Q I rx ry h
  obtain ⟨a, dx, fs, b, dy, gs, rfl, rfl, ha, hb2, q⟩ := h
  cases (show v = Value.ref a from rx)
  cases (show u = Value.ref b from ry)
  obtain ⟨mA, O, _⟩ := ins_get I.hok ha
  obtain ⟨od, J, _⟩ := O.look
  obtain ⟨mA', O', _⟩ := ins_get I.hok hb2
  obtain ⟨od', J', _⟩ := O'.look
  obtain ⟨m, hF⟩ := I.fr
  refine PySem.W.binop_K (op := op) hF I.ok.mod.kin J J'.type hc hs hf ?_
  refine wpAny_mono (run_fn (us := [.ref a, .ref b]) (vs := [.ref a, .ref b]) (dvs := []) (ds := []) F hr hb .nil pass0 I (.cons rfl (.cons rfl .nil)) q) (fun w s' z => ?_) fun _ _ x => x
  obtain ⟨z', H', I', rz, qz⟩ := z
  exact SlX.cmpback rz ⟨z', H', I', rz, qz⟩
end L2

namespace PySem.W
open PySem PyProof.Rows
theorem binop_KT {K : Frag} {h₀ : Heap} {L : Addr} {s : Shared} {m : Str → Option Value} {x C f : Addr} {ox : Obj} {od : Option Obj} {A : Around} {E : Value → Shared → Prop} {prog : Program} {w : World} {b : Value} {Q : Value → Shared → Prop} (F : Fr h₀ L s.heap m) (X₀ : K.In h₀) (I : InstAt s.heap x ox C od) (hb : Looks (model prog w) s.heap (typeOf b) (.type "tuple")) (hc : selfFirst K C = true)
    (hs : findIn K (.ref C) (PySem.dunder Operator.Add.info.2) = some (some (.ref f))) (hf : isFn K (.ref f) = true)
    (h : wpAny (model prog w) A (call (.ref f) [.ref x, b]) (CmpBack Q) E s) : wpAny (model prog w) A (binaryOp .Add (.ref x) b) Q E s := by
  have X := X₀.keeps F.keep
  obtain ⟨cd, hcd, hm⟩ := any_some hc
  obtain ⟨rest, hm⟩ : ∃ rest, cd.mro = .ref C :: rest := by
    cases q : cd.mro with
    | nil => rw [q] at hm; cases hm
    | cons a r => rw [q] at hm; exact ⟨r, by rw [List.head?_cons] at hm; cases (beq_iff_eq.mp hm); rfl⟩
  unfold binaryOp
  refine wpAny_holding (wpAny_bind ?_)
  unfold binaryOp1
  refine wpAny_bind (I.type.here (wpAny_bind (hb.here (wpAny_bind ((fills_K X hcd hm hs).here ?_)))))
  refine wpAny_bind (m := if (Value.ref C == Value.type "tuple") = true then pure false else fillsNumberSlot (.type "tuple") "add") ?_
  rw [if_neg (show ¬ ((Value.ref C == Value.type "tuple") = true) from fun e => by simp at e), noFill_tuple_add]
  refine wpAny_pure ?_
  simp only [Bool.and_false, Bool.false_eq_true, if_false, Bool.false_and]
  refine wpAny_bind (wpAny_pure ?_)
  simp only [Bool.false_eq_true, if_false]
  refine wpAny_bind (m := tryMethod (.ref x) _ b) ?_
  unfold tryMethod
  refine wpAny_bind (special_fn X I hs (beq_iff_eq.mp hf) (wpAny_mono h (fun v s' hv => ?_) fun _ _ e => e))
  cases v <;> first | exact hv.elim | exact wpAny_pure (wpAny_pure (wpAny_pure hv))
end PySem.W
namespace PySem.W
open PySem PyProof.Rows
theorem sl_ne : Slot "object" "__ne__" "object.__ne__" := PySem.F.cmp_object.ne
/-- x != y by the class's own __eq__ -/
theorem ne_K {K : Frag} {h₀ : Heap} {L : Addr} {s : Shared} {m : Str → Option Value} {x y C f : Addr} {ox : Obj} {od : Option Obj} {A : Around} {E : Value → Shared → Prop} {prog : Program} {w : World} {Q : Value → Shared → Prop} (hu : A.units + 1 < cLine) (F : Fr h₀ L s.heap m) (X₀ : K.In h₀) (I : InstAt s.heap x ox C od) (hb : Looks (model prog w) s.heap (typeOf (.ref y)) (.ref C))
    (hn : findIn K (.ref C) "__ne__" = some (some (.builtin "object.__ne__"))) (hs : findIn K (.ref C) "__eq__" = some (some (.ref f))) (hf : isFn K (.ref f) = true) (ho : subIn K (.ref C) (.type "object") = some true)
    (h : wpAny (model prog w) A.in1 (call (.ref f) [.ref x, .ref y]) (fun v s' => ∃ b, v = .bool b ∧ Q (.bool (!b)) s') E s) : wpAny (model prog w) A (compareOp .NotEq (.ref x) (.ref y)) Q E s := by
  have X := X₀.keeps F.keep
  have hi : Looks (model prog w) s.heap (isInstance (.ref x) (.type "object")) true := I.type.andThen (looks_subIn X ho)
  have one : wpAny (model prog w) A (tryCompare (.ref x) "__ne__" (.ref y)) (fun r s' => ∃ v, r = some v ∧ Q v s') E s := by
    unfold tryCompare
    simp only [callSpecialIfBound?, bindSpecialIfBound?]
    refine wpAny_bind (wpAny_holding (wpAny_bind (wpAny_bind (wpAny_bind (I.type.here ((looks_findIn X hn).here ?_))))))
    simp only [sl_ne.bind]
    refine wpAny_bind (wpAny_askSetting (wpAny_ite ?_))
    have go : wpAny (model prog w) A (call (.builtin "object.__ne__") ([.ref x] ++ [.ref y])) (fun v s' => ∃ b, v = .bool b ∧ Q v s') E s := by
      refine wpAny_call (codeAny_call_builtin sl_ne.plain PySem.F.cmpEntry_ne (check_slot PySem.F.cmpKind_ne PySem.F.cmpSplit_ne hi (PySem.F.cmpArgs_ne _ _) ?_))
      unfold Builtin.«object.__ne__»
      repeat (first
        | with_reducible refine wpAny_cRoomFor (A := A.in1) hu ?_
        | (refine wpAny_bind (m := callSpecialIfBound? (.ref x) (Str.ofString "__eq__") [.ref y])
            (ifBound_K X I hs hf (wpAny_mono h (fun r s' hr => by
              obtain ⟨b, rfl, hq⟩ := hr
              repeat (first | exact ⟨_, rfl, hq⟩ | exact wpAny_pure ⟨_, rfl, hq⟩ | exact wpAny_truthy_bool ⟨_, rfl, hq⟩ | (refine wpAny_bind (m := truthy (.bool _)) (wpAny_truthy_bool ?_)) | wp_step)) fun _ _ e => e)))
        | wp_step)
    have fin : wpAny (model prog w) A (call (.builtin "object.__ne__") ([.ref x] ++ [.ref y]) >>= fun v => pure (some v)) (fun r s' => ∃ b, r = some (.bool b) ∧ Q (.bool b) s') E s :=
      wpAny_bind (wpAny_mono go (fun v s' ⟨b, e, hq⟩ => wpAny_pure ⟨b, by rw [e], by rw [← e]; exact hq⟩) fun _ _ e => e)
    have fin2 : wpAny (model prog w) A (call (.builtin "object.__ne__") ([.ref x] ++ [.ref y]) >>= fun v => pure (some v)) (fun r s' => wpAny (model prog w) A (match r with | some .notImplemented | none => pure none | some v => pure (some v)) (fun r s' => ∃ v, r = some v ∧ Q v s') E s') E s :=
      wpAny_mono fin (fun r s' ⟨b, e, hq⟩ => by subst e; exact wpAny_pure ⟨_, rfl, hq⟩) fun _ _ e => e
    split
    · exact wpAny_bind (wpAny_pure (wpAny_pure (by exact fin2)))
    · exact wpAny_tryCatch (wpAny_bind (wpAny_pure (wpAny_pure (by exact fin2))))
  show wpAny (model prog w) A (richCompare .NotEq (.ref x) (.ref y)) Q E s
  unfold richCompare
  simp only [oneThing_ref]
  refine wpAny_holding (wpAny_bind (wpAny_cRoomFor (Nat.lt_of_succ_lt hu) ?_))
  rw [cmpInfo_NotEq]
  dsimp only
  refine wpAny_bind (I.type.here (wpAny_bind (hb.here ?_)))
  rw [show (Value.ref C != Value.ref C) = false from by simp]
  simp only [Bool.false_eq_true, if_false]
  refine wpAny_bind (wpAny_pure ?_)
  simp only [Bool.false_eq_true, if_false]
  refine wpAny_bind (wpAny_mono one (fun r s' z => ?_) fun _ _ e => e)
  obtain ⟨v, rfl, hq⟩ := z
  exact wpAny_pure hq
end PySem.W

namespace L2
open PySem PySem.Spec PySem.GW
def rNeI (C : Addr) (sp : Sp) : R2 := fun x y H Q => ∃ a dx fs b dy gs, x = .ref a ∧ y = .ref b ∧ H a = some (.ins C dx fs) ∧ H b = some (.ins C dy gs) ∧ sp [x, y] H (fun z H' => ∃ k, z = .bl k ∧ Q (.bl (!k)) H') E0
def rOwnT (K : PySem.W.Frag) (C : Addr) (sp : Sp) : R2 := fun x y H Q => ∃ a dx fs b ys, x = .ref a ∧ y = .ref b ∧ H a = some (.ins C dx fs) ∧ SqT K H b ys ∧ sp [x, y] H Q E0
/-- x != y, both of the class at C with its own __eq__ -/
theorem op_neI {X : Cx} {C g : Addr} {fd : FuncData} {ps : List Str} {n : Nat} {sp : Sp} (hn : PySem.W.findIn X.K (.ref C) "__ne__" = some (some (.builtin "object.__ne__"))) (hs : PySem.W.findIn X.K (.ref C) "__eq__" = some (some (.ref g))) (hf : PySem.W.isFn X.K (.ref g) = true) (ho : PySem.W.subIn X.K (.ref C) (.type "object") = some true)
    (F : FnOk X.prog X.w X.K X.mg X.base CX0 n g fd ps sp) (hb : Binds X.K fd ps []) (hr : Room (n + 1) X.A) : OpR X (compareOp .NotEq) (rNeI C sp) := by
  intro pins s σ H x y v u Q I rx ry h
  obtain ⟨a, dx, fs, b, dy, gs, rfl, rfl, ha, hb2, q⟩ := h
  cases (show v = Value.ref a from rx)
  cases (show u = Value.ref b from ry)
  obtain ⟨mA, O, _⟩ := ins_get I.hok ha
  obtain ⟨od, J, _⟩ := O.look
  obtain ⟨mA', O', _⟩ := ins_get I.hok hb2
  obtain ⟨od', J', _⟩ := O'.look
  obtain ⟨m, hF⟩ := I.fr
  refine PySem.W.ne_K (by have := hr.units; omega) hF I.ok.mod.kin J J'.type hn hs hf ho ?_
  have hl : ([Value.ref a, .ref b] ++ []).length = ps.length := F.len _ _ _ _ q
  refine wpAny_call (codeAny_mono (F.run X.A.in1 X.stack s H ⟨[.ref a, .ref b], []⟩ [.ref a, .ref b] [.ref a, .ref b] _ E0 hr.in1 I.env0.in1 (hb s [.ref a, .ref b] I.kIn hl) (.cons rfl (.cons rfl .nil)) q) fun r s' hq => ?_)
  cases r with
  | error e => exact (pass0 pins σ H s e s' I hq)
  | ok fl =>
    cases fl with
    | ret u =>
      obtain ⟨v, H', I2, rv, k, e, q⟩ := I.after hq
      subst e
      cases (show u = Value.bool k from rv)
      exact ⟨k, rfl, .bl (!k), H', I2, rfl, q⟩
    | next => exact False.elim hq
    | brk => exact False.elim hq
    | cont => exact False.elim hq
/-- x + t, x of the class at C, t a tuple -/
theorem bop_ownT {X : Cx} {C g : Addr} {fd : FuncData} {ps : List Str} {n : Nat} {sp : Sp} (hc : PySem.W.selfFirst X.K C = true) (hs : PySem.W.findIn X.K (.ref C) (PySem.dunder Operator.Add.info.2) = some (some (.ref g))) (hf : PySem.W.isFn X.K (.ref g) = true)
    (F : FnOk X.prog X.w X.K X.mg X.base CX0 n g fd ps sp) (hb : Binds X.K fd ps []) (hr : Room n X.A) : OpR X (binaryOp .Add) (rOwnT X.K C sp) := by
  intro pins s σ H x y v u Q I rx ry h
  obtain ⟨a, dx, fs, b, ys, rfl, rfl, ha, hb2, q⟩ := h
  cases (show v = Value.ref a from rx)
  cases (show u = Value.ref b from ry)
  obtain ⟨mA, O, _⟩ := ins_get I.hok ha
  obtain ⟨od, J, _⟩ := O.look
  obtain ⟨its, o, n', _, hg, hcl, _⟩ := L2.sqT_at I.hok I.kIn hb2
  have LT : PySem.W.Looks (model X.prog X.w) s.heap (typeOf (.ref b)) (.type "tuple") := by rw [← hcl]; exact (PySem.W.Looks.ld (part := none) hg).andThen .now
  obtain ⟨m, hF⟩ := I.fr
  refine PySem.W.binop_KT hF I.ok.mod.kin J LT hc hs hf ?_
  refine wpAny_mono (run_fn (us := [.ref a, .ref b]) (vs := [.ref a, .ref b]) (dvs := []) (ds := []) F hr hb .nil pass0 I (.cons rfl (.cons rfl .nil)) q) (fun w s' z => ?_) fun _ _ x => x
  obtain ⟨z', H', I', rz, qz⟩ := z
  exact SlX.cmpback rz ⟨z', H', I', rz, qz⟩
/-- o.m(k = v, ..), nothing by position -/
def tMethK (C : Addr) (m : Str) (n : Nat) (sp : Sp) (gV : List V → List V → List V) (E : XK) (ta : TE) (tk : TA) : TE := fun σ H Q => ta σ H fun x H1 => ∃ a dx fs, x = .ref a ∧ H1 a = some (.ins C dx fs) ∧ fs.lookup m = none ∧ tk σ H1 fun zs H2 => zs.length = n ∧ sp (gV [.ref a] zs) H2 Q E
theorem pe_methK0 {X : Cx} {C f : Addr} {fd : FuncData} {ps ks : List Str} {n : Nat} {sp : Sp} {m : Str} {o : Expr} {apos pos : Pos} {ta : TE} {tk : TA} {kws : List Keyword} {g : List Value → List Value → List Value} {gV : List V → List V → List V} {CX : CXT} {E : XK} {pl : Sem Bool} (he : PE X o ta) (c : Cls X.K C) (hm : Meth X.K C m f) (F : FnOk X.prog X.w X.K X.mg X.base CX n f fd ps sp) (hr : Room n X.A) (hb : KBn X.K fd ps 1 ks g gV) (hx : Passes CX X E) (hkw : PK X kws tk)
    (hall : (backToKw pos (keywordEach kws X.env)).all (·.1.isSome) = true := by rfl) (hks : (backToKw pos (keywordEach kws X.env)).filterMap (·.1) = ks := by rfl)
    (hpl : ((backTo pos (starEach [] X.env)).any (·.1) || (backToKw pos (keywordEach kws X.env)).any (·.1.isNone)) = false := by rfl)
    (ht : eval (.Call (.Attribute o m apos) [] kws pos) X.env = (do
      let ov ← eval o X.env
      standAt apos.atName
      let (f, first) ← holding [ov] (getMethod ov m pl)
      callWith pos f first (backTo pos (starEach [] X.env)) (backToKw pos (keywordEach kws X.env))) := by rfl) :
    PE X (.Call (.Attribute o m apos) [] kws pos) (tMethK C m ks.length sp gV E ta tk) := by
  refine ⟨fun pins s σ H Q I h => ?_⟩
  refine PySem.W.methodCall_KW (pl := pl) (thn (he.run pins s σ H _ I h) fun u s1 ⟨x, H1, I1, rx, a, dx, fs, ex, ea, l, q⟩ => ?_) ht
  subst ex
  obtain rfl : u = Value.ref a := rx
  refine getmeth_ok I1 ea c hm l ?_
  refine PySem.W.callWith_KW0 (first := [.ref a]) (h₀ := X.base) I1.ok.mod.kin hm.kp hall ?_ hpl
  refine thn (hkw.run pos pins s1 σ H1 _ I1 q) fun ws s2 ⟨zs, H2, I2, rz, l2, q2⟩ => ⟨I2.kIn, ?_⟩
  rw [hks]
  exact run_fnN (us := [.ref a]) (vs := [.ref a]) F hr hb hx I2 (.cons rfl .nil) rz rfl l2 q2
end L2

namespace L2
open PySem PySem.Spec PyProof.Rows
/-- behind the suite of a clause with the name in slot i -/
def endA (i : Nat) (D : Ends) : Ends := { nx := fun σ' H' => D.nx (σ'.set i none) H', rt := D.rt, bk := fun σ' H' => D.bk (σ'.set i none) H', ct := fun σ' H' => D.ct (σ'.set i none) H' }
/-- what the clauses wish of an exception of the body, one after the other; a clause with a name tells its slot -/
def wManyA (K : PySem.W.Frag) (Wout : WX) (D : Ends) : List (Value × Option Nat × (Addr → Value → Option Addr → TS)) → WX
  | [] => Wout
  | (c, none, ts) :: r => fun cls d σ H => ∃ b, PySem.W.exmOne K cls c = some b ∧ (b = true → ∀ a, H a = none → ts a cls d D σ H) ∧ (b = false → wManyA K Wout D r cls d σ H)
  | (c, some i, ts) :: r => fun cls d σ H => ∃ b, PySem.W.exmOne K cls c = some b ∧ (b = true → ∀ a, H a = none → ts a cls d (endA i D) (σ.set i (some (.ref a))) H) ∧ (b = false → wManyA K Wout D r cls d σ H)
inductive HdsA (X : Cx) : List ExceptHandler → List (Value × Option Nat × (Addr → Value → Option Addr → TS)) → Prop
  | nil : HdsA X [] []
  | cons {x : Str} {c : Value} {ts : Addr → Value → Option Addr → TS} {b₀ : Stmt} {suite : List Stmt} {np pos' : Pos} {hds : List ExceptHandler} {l : List (Value × Option Nat × (Addr → Value → Option Addr → TS))} (hc : Names X x c)
      (hsu : ∀ (a : Addr) (oe : Obj) (cls : Value) (d : Option Addr) (pn : List (Addr × Obj)), Zc cls d oe → (∃ vs, oe.data = .fields vs) → PSs (X.suite a ((a, oe) :: pn)) (b₀ :: suite) (ts a cls d)) (r : HdsA X hds l) :
      HdsA X (.ExceptHandler (some (.Name x np)) none (b₀ :: suite) pos' :: hds) ((c, none, ts) :: l)
  | consAs {x n : Str} {i : Nat} {c : Value} {ts : Addr → Value → Option Addr → TS} {b₀ : Stmt} {suite : List Stmt} {np pos' : Pos} {hds : List ExceptHandler} {l : List (Value × Option Nat × (Addr → Value → Option Addr → TS))} (hi : X.N[i]? = some n) (hln : X.env.kindOf n = some .local) (hc : Names X x c)
      (hsu : ∀ (a : Addr) (oe : Obj) (cls : Value) (d : Option Addr) (pn : List (Addr × Obj)), Zc cls d oe → (∃ vs, oe.data = .fields vs) → PSs (X.suite a ((a, oe) :: pn)) (b₀ :: suite) (ts a cls d)) (r : HdsA X hds l) :
      HdsA X (.ExceptHandler (some (.Name x np)) (some n) (b₀ :: suite) pos' :: hds) ((c, some i, ts) :: l)
section
variable {X : Cx} {body : List Stmt} {h₀ : ExceptHandler} {hds : List ExceptHandler} {l : List (Value × Option Nat × (Addr → Value → Option Addr → TS))} {pos : Pos} {tb : WX → TS} {Wout : WX}
theorem ps_try_manyA (hs : X.stack = X.env :: X.outer) (hf : X.env.frame = some X.env.locals) (hN : X.N.Nodup) (tk : Takes X Wout)
    (hb : ∀ (W : WX) (pn : List (Addr × Obj)) (xe : Value → Shared → Prop), Takes (X.tr pn xe) W → PassesOwn (model X.prog X.w) X.A X.env xe → PSs (X.tr pn xe) body (tb W))
    (hh : HdsA X (h₀ :: hds) l) : PS X (.Try body (h₀ :: hds) [] [] pos) (fun D σ H => tb (wManyA X.K Wout D l) D σ H) := by
  refine ⟨fun pins s σ H D I h => ?_⟩
  have ok := I.ok
  have hfr : X.A.frames = some (X.env :: X.outer) := by rw [ok.frames, hs]
  refine wpAny_Try_except ?_
  refine wpAny_mono ((hb (wManyA X.K Wout D l) (X.pn ++ pins) (fun e s₁ => wpAny (model X.prog X.w) X.A (noteFrame e X.env) (fun _ s₂ => wpAny (model X.prog X.w) X.A (setFlight e none) (fun _ s₃ =>
    wpAny (model X.prog X.w) X.A (handleBy e X.env (h₀ :: hds)) (SP X pins D) X.xe s₃) X.xe s₂) X.xe s₁) (fun u s' xx => ?_) PassesOwn.looking).run [] s σ H D (I.toTry _) h) (fun f s1 hsp => ?_) (fun e s1 he => he)
  · -- the catch
    obtain ⟨a, B, sI, pins', σ', H', cls, d, rfl, J', nb, up, sky, na, os, ag, w⟩ := xx
    have J : Inv X pins σ' H' sI := J'.ofTry ok
    have sky' : Sky B (X.env :: X.outer) a (Zc cls d) X.env.locals s'.heap := by rw [← hs]; exact sky
    show wpAny (model X.prog X.w) X.A (noteFrame (.ref a) X.env) _ _ _
    refine Sky.land Zc.steady hfr hf sky' fun h3 fl3 up3 => ?_
    have J3 : Inv X pins σ' H' { s' with heap := h3 } := J.landed nb fl3.1 (up.trans up3) os ag
    obtain ⟨oe3, vs3, he3, hz3, hd3⟩ := fl3.there
    have notFr : ∀ {h : Heap} {o : Obj} {vs : Array Value}, h.FunFrames B (X.env :: X.outer) → h.get? a = some o → o.data = .fields vs → a ∉ frs (X.env :: X.outer) := fun {h o vs} ff e dd hm => by
      obtain ⟨_, o', e', hnf⟩ := ff.mem hm
      rw [e] at e'; cases e'
      exact hnf _ dd
    have nfr := notFr fl3.2.2.1 he3 hd3
    have nL : a ≠ X.env.locals := fun z => nfr (List.mem_filterMap.mpr ⟨X.env, List.mem_cons_self, by rw [hf, z]⟩)
    have nF : a ∉ X.fs := fun hm => by
      obtain ⟨e, he, q⟩ := List.mem_filterMap.mp hm
      exact nfr (List.mem_filterMap.mpr ⟨e, List.mem_cons_of_mem _ he, q⟩)
    have S3 := J3.suite he3 hd3 na nL nF
    have LT : PySem.W.Looks (model X.prog X.w) h3 (typeOf (.ref a)) cls := fun A Q E s k q => wpAny_typeOf_ref (k _ _ he3) (by rw [hz3.1]; exact q)
    have test : ∀ {x : Str} {np : Pos} {c : Value}, Names X x c → ∀ {Q : Value → Shared → Prop} {E : Value → Shared → Prop}, Q c { s' with heap := h3 } → wpAny (model X.prog X.w) (X.A.mark (some (.ref a))) (eval (.Name x np) X.env) Q E { s' with heap := h3 } := fun {x np c} hc {Q E} q => by
      obtain ⟨hg, hdbg, hm | ⟨hm, hv, hnn⟩⟩ := hc
      · exact ld_glob (X := X.suite a ((a, oe3) :: (X.pn ++ pins))) S3 hg hm q hdbg
      · exact ld_blt (X := X.suite a ((a, oe3) :: (X.pn ++ pins))) S3 hg hm hv q hnn hdbg
    have go : ∀ {hds' : List ExceptHandler} {l' : List (Value × Option Nat × (Addr → Value → Option Addr → TS))}, HdsA X hds' l' → wManyA X.K Wout D l' cls d σ' H' →
        wpAny (model X.prog X.w) X.A (handleBy (.ref a) X.env hds') (SP X pins D) X.xe { s' with heap := h3 } := by
      intro hds' l' hk
      induction hk with
      | nil =>
        intro w
        refine wpAny_handleBy_nil ?_
        obtain ⟨k1, k2, k3, oe, vs, T, oT, ts', he, hz, hd, h1, hr⟩ := id fl3
        unfold PySem.passOn
        refine wpAny_bind (wpAny_field he hd h1 ?_)
        rw [if_neg (show ¬ ((Value.ref T == Value.none) = true) from by simp)]
        have fin : wpAny (model X.prog X.w) X.A (setFlight (.ref a) X.env.frame) (fun _ s4 => wpAny (model X.prog X.w) X.A (throw (.ref a) : Sem Flow) (SP X pins D) X.xe s4) X.xe { s' with heap := h3 } := by
          rw [hf]
          refine HandSPX.setFlight_upZ fl3 fun h4 hh4 up4 => wpAny_throw (tk _ _ ?_)
          exact ⟨a, B, sI, pins, σ', H', cls, d, rfl, J, nb, (up.trans up3).trans up4, .inr (.inr (by rw [hs]; exact hh4)), na, os, ag, w⟩
        first
          | exact wpAny_bind (wpAny_pure (wpAny_bind fin))
          | exact wpAny_bind fin
      | @cons x c ts b₀ suite np pos' hds2 l2 hc hsu r ih =>
        intro w
        obtain ⟨b, hb1, hyes, hno⟩ := w
        have LM := PySem.W.exm_one (M := model X.prog X.w) (J3.kIn) LT hb1
        refine wpAny_handleBy_cons (codeAny_handlers_test ?_) (by intro q; cases q)
        refine test hc (LM.here ?_)
        cases b with
        | true =>
          refine codeAny_handlers_suite ?_
          refine HandSPX.lands_againZ fl3 fun h4 fl4 up4 => ?_
          have J4 : Inv X pins σ' H' { s' with heap := h4 } := J.landed nb fl4.1 ((up.trans up3).trans up4) os ag
          obtain ⟨oe4, vs4, he4, hz4, hd4⟩ := fl4.there
          have S4 := J4.suite he4 hd4 na nL nF
          refine wpAny_mono ((hsu a oe4 cls d (X.pn ++ pins) hz4 ⟨_, hd4⟩).run [] _ _ H' _ S4 (hyes rfl a na)) (fun f s6 hsp => ?_) (fun _ _ z => False.elim z)
          cases f with
          | next =>
            obtain ⟨σ6, H6, S6, q6⟩ := hsp
            exact ⟨_, _, S6.unsuite ok, q6⟩
          | brk =>
            obtain ⟨σ6, H6, S6, q6⟩ := hsp
            exact ⟨_, _, S6.unsuite ok, q6⟩
          | cont =>
            obtain ⟨σ6, H6, S6, q6⟩ := hsp
            exact ⟨_, _, S6.unsuite ok, q6⟩
          | ret u =>
            obtain ⟨v6, σ6, H6, S6, r6, q6⟩ := hsp
            exact ⟨_, _, _, S6.unsuite ok, r6, q6⟩
        | false =>
          show wpAny _ X.A (handleBy (.ref a) X.env hds2) _ _ _
          exact ih (hno rfl)
      | @consAs x n i c ts b₀ suite np pos' hds2 l2 hi hln hc hsu r ih =>
        intro w
        obtain ⟨b, hb1, hyes, hno⟩ := w
        have LM := PySem.W.exm_one (M := model X.prog X.w) (J3.kIn) LT hb1
        refine wpAny_handleBy_cons (codeAny_handlers_test ?_) (by intro q; cases q)
        refine test hc (LM.here ?_)
        cases b with
        | true =>
          have hloc : Loc X.env.scope n := .inl hln
          refine codeAny_handlers_suite_as ?_
          refine HandSPX.lands_againZ fl3 fun h4 fl4 up4 => ?_
          have J4 : Inv X pins σ' H' { s' with heap := h4 } := J.landed nb fl4.1 ((up.trans up3).trans up4) os ag
          obtain ⟨oe4, vs4, he4, hz4, hd4⟩ := fl4.there
          have S4 := J4.suite he4 hd4 na nL nF
          refine store_ok (X := X.suite a ((a, oe4) :: (X.pn ++ pins))) (v := .ref a) S4 hN hi hloc rfl (fun s5 S5 => ?_) (.inr hln)
          refine wpAny_mono ((hsu a oe4 cls d (X.pn ++ pins) hz4 ⟨_, hd4⟩).run [] s5 _ H' _ S5 (hyes rfl a na)) (fun f s6 hsp => ?_) (fun _ _ z => False.elim z)
          have end_ : ∀ {σ6 : L2.St} {H6 : Hp} {Q : Shared → Prop}, Inv (X.suite a ((a, oe4) :: (X.pn ++ pins))) [] σ6 H6 s6 → (∀ s7, Inv X pins (σ6.set i none) H6 s7 → Q s7) →
              wpAny (model X.prog X.w) X.A (do bindName X.env n .none; unbindBehindTheSuite X.env n pos') (fun _ s7 => Q s7) X.xe s6 := fun {σ6 H6 Q} S6 hq => gone_ok (S6.unsuite ok) hN hi hln hq
          cases f with
          | next =>
            obtain ⟨σ6, H6, S6, q6⟩ := hsp
            exact end_ S6 fun s7 J7 => ⟨_, _, J7, q6⟩
          | brk =>
            obtain ⟨σ6, H6, S6, q6⟩ := hsp
            exact end_ S6 fun s7 J7 => ⟨_, _, J7, q6⟩
          | cont =>
            obtain ⟨σ6, H6, S6, q6⟩ := hsp
            exact end_ S6 fun s7 J7 => ⟨_, _, J7, q6⟩
          | ret u =>
            obtain ⟨v6, σ6, H6, S6, r6, q6⟩ := hsp
            exact end_ S6 fun s7 J7 => ⟨_, _, _, J7, r6, q6⟩
        | false =>
          show wpAny _ X.A (handleBy (.ref a) X.env hds2) _ _ _
          exact ih (hno rfl)
    exact go hh w
  · cases f with
    | next =>
      obtain ⟨σ', H', J', q⟩ := hsp
      exact wpAny_execs_nil ⟨σ', H', J'.ofTry ok, q⟩
    | brk =>
      obtain ⟨σ', H', J', q⟩ := hsp
      exact ⟨σ', H', J'.ofTry ok, q⟩
    | cont =>
      obtain ⟨σ', H', J', q⟩ := hsp
      exact ⟨σ', H', J'.ofTry ok, q⟩
    | ret u =>
      obtain ⟨v, σ', H', J', r, q⟩ := hsp
      exact ⟨v, σ', H', J'.ofTry ok, r, q⟩
end
end L2

/-! a lambda handed to a def that calls it; what it raises is wished for at that def's slots -/
namespace LamX
open PySem PySem.Spec PyProof.Rows L2
section
variable {X : Cx} {pins : List (Addr × Obj)} {σ : L2.St} {H HZ : Hp} {s s1 : Shared}
theorem act2 {CXg : CXT} {Eg : XK} {Ng : List Str} {qg : Str} {sg : Scope} {g f c' : Addr} {cdg pm ctv : Value} {params : Arguments} {body : Expr} {scope : Scope} {k i : Nat} {a : Str} {pn : List (Addr × Obj)} {xe : Value → Shared → Prop} {W : WX} {E : XK} {tb : TE} {p1 p2 : Pos} {σ0 : L2.St}
    (I : Inv X pins σ H s) (L : LamS X.env.scope scope) (hf : s.heap.get? f = some (PySem.W.kla_obj "<lambda>" (X.env.qual ++ "<lambda>") params body scope (cloFrom X.env.cells scope.names []) pm c' ctv)) (hfn : H f = none) (hfr : f ∉ frs X.stack)
    (hbind : bindArgs (PySem.W.kla_fn "<lambda>" (X.env.qual ++ "<lambda>") params body scope (cloFrom X.env.cells scope.names []) pm (.ref c') ctv) ⟨[], []⟩ = pure [])
    (tk : Takes ((cxOf CXg X.prog X.w X.K X.mg X.base Ng qg sg g cdg X.A X.stack s H Eg).tr pn xe) W) (hW : ∀ cls d H', E cls d H' → W cls d σ0 H') (hr : Room (k + 1) (X.A.deeper (envOfC qg sg s.heap.objs.size g cdg)))
    (hbody : ∀ (A : Around) (outer : List Env) (s : Shared) (H : Hp), Room k (A.deeper (lamEnv X scope s.heap.objs.size f c')) → PE (lamCx X A outer s H E scope f c') body tb)
    (hN : Ng[i]? = some a) (hv : Vis sg a) (hd : (a == ("__debug__" : Str)) = false := by decide) (hcd : (a == ("__classdict__" : Str)) = false := by decide) :
    PE ((cxOf CXg X.prog X.w X.K X.mg X.base Ng qg sg g cdg X.A X.stack s H Eg).tr pn xe) (.Call (.Name a p1) [] [] p2)
      (fun σZ HZ Q => σZ = σ0 ∧ σZ[i]? = some (some (.ref f)) ∧ HZ c' = some (CodeO c' (X.env.qual ++ "<lambda>")) ∧ tb σ HZ Q) := by
  refine ⟨fun pinsZ sZ σZ HZ Q IZ h => ?_⟩
  obtain ⟨e0, hs, hc, ht⟩ := h
  subst e0
  refine wpAny_Call_Name_kw (thn ((pe_var (pos := p1) (i := i) hN hv hd hcd).run pinsZ sZ σZ HZ (fun v H1 => v = .ref f ∧ H1 = HZ) IZ ⟨.ref f, hs, rfl, rfl⟩) fun u s1 ⟨v, H1, I1, r1, q1⟩ => ?_)
  obtain ⟨ev, eH⟩ := q1
  subst ev
  rw [eH] at I1
  obtain rfl : u = Value.ref f := r1
  have of1 : s1.heap.get? f = some (PySem.W.kla_obj "<lambda>" (X.env.qual ++ "<lambda>") params body scope (cloFrom X.env.cells scope.names []) pm c' ctv) := I1.base.keep f _ hf hfn hfr (fun z => nomatch (show f ∈ ([] : List Addr) from z))
  refine PySem.W.callWith_F0 ⟨_, _, _, _, of1⟩ ?_
  have un : Un (frs X.stack) [] H HZ s.heap s1.heap := I1.base
  obtain ⟨⟨oc, vs, t, hoc, hdc, hvc⟩, _, _⟩ := I1.hok c' _ hc
  have rc : codeAny (model X.prog X.w) (X.A.deeper (envOfC qg sg s.heap.objs.size g cdg)) (.call (.ref f) ⟨[], []⟩) (CR (L2.CX X.prog X.w) (envOfC qg sg s.heap.objs.size g cdg :: X.stack) X.prog X.w HZ s1 Q E) s1 := by
    refine PySem.W.kla_callFunE hr.depth of1 rfl L.co L.gen rfl ⟨c', oc, vs, t, rfl, hoc, hdc, hvc⟩ ?_
    rw [hbind]
    refine wpAny_pure (wpAny_newFunctionEnv (fun y hy => (L.own y hy).2) (fun y hy => absurd hy (by simp)) (fun h₁ hns hsb => ⟨I1.nolimit.fresh _ hsb, ?_⟩) L.kind)
    show codeAny _ _ (.expr body (lamEnv X scope s1.heap.objs.size f c')) _ _
    have kp : ∀ b o, s1.heap.get? b = some o → h₁.get? b = some o := fun b o e => hsb.extBut b o (Nat.ne_of_lt (Heap.lt_size e)) (Heap.get?_push_of_some _ e)
    have J : Inv (lamCx X (X.A.deeper (envOfC qg sg s.heap.objs.size g cdg)) (envOfC qg sg s.heap.objs.size g cdg :: X.stack) s1 HZ E scope f c') [] σ HZ { s1 with heap := h₁, toks := s1.toks + ([] : List (Str × Value)).length } :=
      lam_start2 I L I1.env0 hr.hd un hns kp
    refine PySem.W.kla_codeExpr (wpAny_mono ((hbody _ _ s1 HZ (hr.deeper _)).run [] _ _ HZ Q J ht) (fun v s' hq => ?_) fun e s' hq => hq)
    obtain ⟨w', H', J', rv, q⟩ := hq
    exact ⟨w', H', J'.os, J'.bare, J'.base, J'.hok, rv, q⟩
  refine wpAny_call (codeAny_mono rc fun r s' hq => ?_)
  cases r with
  | error e => exact tk e s' (XE.of_call I1 (fun cls d H' h => hW cls d H' h) hq)
  | ok fl =>
    cases fl with
    | ret u => exact I1.after hq
    | next => exact False.elim hq
    | brk => exact False.elim hq
    | cont => exact False.elim hq
end
/-- the def that calls what it got, a: TT tells what it makes of the lambda's reading -/
def Gives (X : Cx) (Ng : List Str) (x : Str) (sg : Scope) (g : Addr) (cdg : Value) (bg : List Stmt) (a : Str) (q : Str) (TT : (XK → Hp → VK → Prop) → Hp → VK → Prop) : Prop :=
  ∀ (f c' : Addr) (s : Shared) (H : Hp) (Q : VK) (tl : XK → Hp → VK → Prop),
    (∀ (W : WX) (pn : List (Addr × Obj)) (xe : Value → Shared → Prop) (E : XK) (p1 p2 : Pos) (σ0 : L2.St), Takes ((cxOf C8.CX0 X.prog X.w X.K X.mg X.base Ng x sg g cdg X.A X.stack s H C8.E0).tr pn xe) W → (∀ cls d H', E cls d H' → W cls d σ0 H') →
      PE ((cxOf C8.CX0 X.prog X.w X.K X.mg X.base Ng x sg g cdg X.A X.stack s H C8.E0).tr pn xe) (.Call (.Name a p1) [] [] p2) (fun σZ HZ Q => σZ = σ0 ∧ σZ[0]? = some (some (.ref f)) ∧ HZ c' = some (CodeO c' q) ∧ tl E HZ Q)) →
    H c' = some (CodeO c' q) → TT tl H Q →
    ∃ t, PSs (cxOf C8.CX0 X.prog X.w X.K X.mg X.base Ng x sg g cdg X.A X.stack s H C8.E0).nox bg t ∧ t { nx := fun _ H' => Q .non H', rt := Q } (L2.start Ng [.ref f]) H
section
variable {X : Cx}
/-- x(lambda: body) -/
theorem pe_lam {T : List (Addr × Str)} {TT : (XK → Hp → VK → Prop) → Hp → VK → Prop} {x a : Str} {g c P : Addr} {k : Nat} {pg : Arguments} {bg : List Stmt} {sg : Scope} {dV kV doc pm cdv ct oc : Value} {an od : Option Addr} {osl : Array (Option Value)} {Ng : List Str}
    {params : Arguments} {body : Expr} {scope : Scope} {t : XK → TE} {p lpos pos : Pos} (hg : Gl X x) (hm : X.mg x = some (.ref g)) (hk : PySem.W.keepIn X.K (.ref g) = true)
    (lk : X.K.lookup g = some ⟨oc, od, .func (PySem.W.fnOf x x pg bg sg dV kV doc pm an cdv ct), osl⟩) (hcg : PySem.W.codeIn X.K cdv x = true) (hb : L2.Binds X.K (PySem.W.fnOf x x pg bg sg dV kV doc pm an cdv ct) [a] []) (Sg : FnScope Ng [a] sg) (hNg : Ng[0]? = some a) (hva : Vis sg a)
    (hG : Gives X Ng x sg g cdv bg a (X.env.qual ++ "<lambda>") TT)
    (TB : TabB X.base X.mg c P) (hcode : X.env.code = .ref c) (hmT : (P, X.env.qual ++ "<lambda>") ∈ T) (hu : ∀ p ∈ T, p.1 = P → p.2 = X.env.qual ++ "<lambda>") (hr : Room (k + 2) X.A) (L : LamS X.env.scope scope) (hdef : defaultsOf params X.env = ([], []))
    (hbind : ∀ (q : Str) (cl : List (Str × Addr)) (pm cv ctv : Value), bindArgs (PySem.W.kla_fn "<lambda>" q params body scope cl pm cv ctv) ⟨[], []⟩ = pure [])
    (hbody : ∀ (A : Around) (outer : List Env) (s : Shared) (H : Hp) (E : XK) (f c' : Addr), Room k (A.deeper (lamEnv X scope s.heap.objs.size f c')) → PE (lamCx X A outer s H E scope f c') body (t E))
    (hdb : (x == ("__debug__" : Str)) = false := by decide) (hd : (a == ("__debug__" : Str)) = false := by decide) (hcd : (a == ("__classdict__" : Str)) = false := by decide) :
    PE X (.Call (.Name x p) [.Lambda params body scope lpos] [] pos) (tLam T TT t) := by
  refine ⟨fun pins s σ H Q I h => ?_⟩
  obtain ⟨hT, h⟩ := h
  refine wpAny_Call_Name_kw (ld_glob I hg hm ?_ hdb)
  refine PySem.W.callWith_K (h₀ := X.base) I.ok.mod.kin hk ?_ (by rfl) (by rfl)
  show wpAny _ _ (spliced ((false, eval (.Lambda params body scope lpos) X.env) :: backTo pos (starEach [] X.env))) _ _ s
  refine Calls.spliced_cons (lam_make2 I TB hcode hmT hu hT hdef (L.has I.ok) fun f c' pm' ctv H1 s' I1 eN T1 hf hfn hfr hco => ?_)
  refine Calls.spliced_nil ⟨I1.kIn, ?_⟩
  have rc : codeAny (model X.prog X.w) X.A (.call (.ref g) ⟨[.ref f], []⟩) (CR C8.CX0 X.stack X.prog X.w H1 s' Q C8.E0) s' := by
    refine run_ofS (N := Ng) (ps := [a]) (us := [.ref f]) (vs := [.ref f]) lk hcg Sg hr I1.env0 (hb s' [.ref f] I1.kIn rfl) (.cons rfl .nil) rfl fun hr' => ?_
    obtain ⟨t', ht', hq'⟩ := hG f c' s' H1 Q (fun E H' Q' => t E σ H' Q') (fun W pn xe E p1 p2 σ0 tk hW => act2 (i := 0) I1 L hf hfn hfr (hbind _ _ _ _ _) tk hW hr' (fun A outer s H hr2 => hbody A outer s H E f c' hr2) hNg hva hd hcd) hco (h H1 eN T1)
    exact ⟨t', ht'.nox, hq'⟩
  refine wpAny_call (codeAny_mono rc fun r s2 hq => ?_)
  cases r with
  | error e => exact (show False from hq).elim
  | ok fl =>
    cases fl with
    | ret u => exact I1.after hq
    | next => exact False.elim hq
    | brk => exact False.elim hq
    | cont => exact False.elim hq
end
end LamX

namespace L2
open PySem PySem.Spec PyProof.Rows
section
variable {P : Program} {w : World} {K : PySem.W.Frag} {mg : Str → Option Value} {base : Heap}
/-- the code object of the def at f; its table -/
def cdA (K : PySem.W.Frag) (f : Addr) : Addr := match K.lookup f with
  | some ⟨_, _, .func fd, _⟩ => (match fd.code with
    | .ref c => c
    | _ => 0)
  | _ => 0
def tbA (K : PySem.W.Frag) (f : Addr) : Addr := He.tabOf K (cdA K f)
/-- as Fun.ok, the code object told -/
theorem Fun.okC {x qual : Str} {st : Stmt} {f : Addr} {fd : FuncData} {N ps : List Str} {k : Nat} {sp : Sp} (F : Fun K x qual st f fd) (S : FnScope N ps (defScope st)) (len : ∀ vs H Q E, sp vs H Q E → vs.length = ps.length)
    (hbody : ∀ (A : Around) (outer : List Env) (s : Shared) (H : Hp) (vs : List V) (Q : VK) (E : XK), Room k (A.deeper (envOfC qual (defScope st) s.heap.objs.size f (.ref (cdA K f)))) → sp vs H Q E →
      ∃ t, PSs (cxOf CX0 P w K mg base N qual (defScope st) f (.ref (cdA K f)) A outer s H E).nox (defBody st) t ∧ t { nx := fun _ H' => Q .non H', rt := Q } (start N vs) H) : FnOk P w K mg base CX0 (k + 1) f fd ps sp := by
  obtain ⟨oc, od, kV, doc, pm, an, cdv, ct, osl, rfl, lk, hcd⟩ := F.ex
  obtain ⟨c, rfl⟩ := He.codeIn_ref hcd
  have e : cdA K f = c := by
    unfold cdA
    rw [lk]
  refine fn_of lk hcd S len fun A outer s H vs Q E hr hsp => ?_
  rw [e] at hbody
  obtain ⟨t, h, q⟩ := hbody A outer s H vs Q E hr hsp
  exact ⟨t, h.nox, q⟩
end
end L2
set_option Elab.async false
set_option linter.all false
set_option maxRecDepth 100000
set_option maxHeartbeats 4000000
/-! general: isinstance of a caught error, an own class beside other kinds, repr -/
namespace PySem.W
open PySem PyProof.Rows PySem.SeqAt
/-- t == x, t a tuple, x of an own class: x's own __eq__ is asked -/
theorem eqT_K {K : Frag} {h₀ : Heap} {L : Addr} {s : Shared} {m : Str → Option Value} {x t C f : Addr} {ox : Obj} {od : Option Obj} {A : Around} {E : Value → Shared → Prop} {prog : Program} {w : World} {Q : Value → Shared → Prop} (hu : A.units < cLine) (F : Fr h₀ L s.heap m) (X₀ : K.In h₀) (I : InstAt s.heap x ox C od) (ht : s.TypeIs (.ref t) "tuple")
    (hsub : subIn K (.ref C) (.type "tuple") = some false) (hs : findIn K (.ref C) (cmpInfo .Eq).2.2 = some (some (.ref f))) (hf : isFn K (.ref f) = true)
    (h : wpAny (model prog w) A (call (.ref f) [.ref x, .ref t]) (CmpBack Q) E s) : wpAny (model prog w) A (richCompare .Eq (.ref t) (.ref x)) Q E s := by
  have X := X₀.keeps F.keep
  have hi : Looks (model prog w) s.heap (isInstance (.ref x) (.type "tuple")) false := I.type.andThen (looks_subIn X hsub)
  have dec : ∀ Q' : Value → Shared → Prop, Q' .notImplemented s → wpAny (model prog w) A (call (.builtin "tuple.__eq__") [.ref t, .ref x]) Q' E s := fun Q' hq => by
    refine call_meetsIn (S := fun A R s' => Looks (model prog w) s'.heap (isInstance (.ref x) (.type "tuple")) false ∧ R (.ok (.ret .notImplemented)) s') PySem.F.slot_tuple_eq ht PySem.F.entry_tuple_eq (PySem.F.args_tuple_eq_2 _ _) (.of_wp fun A R s hh => ?_) ⟨hi, hq⟩
    obtain ⟨h1, h2⟩ := hh
    wp_walk using h1.here
    exact ⟨_, rfl, h2⟩
  unfold richCompare
  simp only [oneThing_ref]
  refine wpAny_holding (wpAny_bind (wpAny_cRoomFor hu ?_))
  rcases hi : cmpInfo CmpOp.Eq with ⟨sym, g, r⟩
  rw [hi] at hs
  have h1 : Slot "tuple" (cmpInfo .Eq).2.1 "tuple.__eq__" := PySem.F.slot_tuple_eq
  rw [hi] at h1
  dsimp only at hs h1 ⊢
  refine wpAny_bind (wpAny_typeOf ht (wpAny_bind (I.type.here ?_)))
  rw [show (Value.type "tuple" != Value.ref C) = true from by simp]
  simp only [if_true]
  refine wpAny_bind ((looks_subIn X hsub).here ?_)
  simp only [Bool.false_eq_true, if_false, Bool.not_false, if_true]
  refine wpAny_bind (m := tryCompare (.ref t) _ (.ref x)) (wpAny_tryCompare_declines ht h1 (dec _ ⟨rfl, ?_⟩))
  refine wpAny_bind (m := tryCompare (.ref x) _ (.ref t)) ?_
  unfold tryCompare
  refine wpAny_bind (ifBound_K X I hs hf (wpAny_mono h (fun v s' hv => ?_) fun _ _ e => e))
  cases v <;> first | exact hv.elim | exact wpAny_pure (wpAny_pure hv)
end PySem.W
set_option Elab.async false
set_option linter.all false
set_option maxRecDepth 100000
set_option maxHeartbeats 4000000
/-! general: repr of None, bools, ints, texts, lists -/
namespace PySem
open PySem PyProof.Rows PySem.SeqAt
section
variable {prog : Program} {w : World} {A : Around} {E : Value → Shared → Prop} {s : Shared}
theorem repr_of_list {a : Addr} {xs : List PyData} {as : List Addr} {Q : Value → Shared → Prop} (r : Reads s.heap (.ref a) (.list xs) as) (hne : xs ≠ []) (hs : PyData.showable (.list xs) = true) (hd : PyData.hasDict (.list xs) = false) (hz : (PyData.shown (.list xs)).length ≤ sizeLine) (hg : A.guards = some []) (hu : A.units + PyData.depth (.list xs) + 2 < cLine)
    (hQ : ∀ h' u tk, (∀ b o, s.heap.get? b = some o → h'.get? b = some o) → Q (.str (PyData.shown (.list xs)) u) { s with heap := h', toks := tk }) : wpAny (model prog w) A (call (.builtin "repr") [.ref a]) Q E s := by
  cases r with
  | @list _ o vs na _ as0 h1 h2 h3 h4 =>
    have hz' : (listText (PyData.shownAll xs)).length ≤ sizeLine := by simpa only [PyData.shown] using hz
    obtain ⟨bs, hb, hk⟩ := ReprAllK.of_readsAll (prog := prog) (w := w) h4 (by simpa [PyData.showable] using hs) (fun hx hm => by rw [show PyData.hasDict (.list xs) = PyData.hasDictAll xs from by simp [PyData.hasDict]] at hd; rw [hd] at hx; cases hx) (fun t ht => Nat.le_trans (listText_mem_le ht) hz')
    have r : Reads s.heap (.ref a) (.list xs) _ := .list h1 h2 h3 h4
    have hna : a ∉ bs := not_mem_of_deeper r (by simp only [PyData.depth]; omega) hb
    simp only [PyData.depth] at hu
    simp only [PyData.shown] at hQ
    obtain ⟨l⟩ := vs
    cases l with
    | nil =>
      have h4' : ReadsAll s.heap [] xs _ := h4
      cases h4'
      exact absurd rfl hne
    | cons x l =>
      have hTy : s.TypeIs (.ref a) "list" := ⟨_, h1, h2⟩
      refine Calls.call_function_entry F.kind_repr F.plain_repr F.entry_repr (F.args_repr1 _) ?_
      unfold Builtin.«repr»
      refine wpAny_bind (m := oneArg "repr" _) (wpAny_pure ?_)
      refine wpAny_bind (wpAny_cRoomFor (by show A.units + 1 < cLine; omega) ?_)
      refine wpAny_bind (wpAny_specialOf (name := Str.ofString "__repr__") hTy F.slot_list_repr.lookup ?_)
      refine wpAny_bind (m := callSpecialIfBound? (.ref a) (Str.ofString "__repr__")) (wpAny_callSpecialIfBound?_slot (name := Str.ofString "__repr__") hTy F.slot_list_repr
        (call_list_reprK h1 h2 h3 hna (by simpa using hk.length_eq) (fun i y e => hk.item i y (by simpa using e)) (A := A.in1) (g := []) hg (fun b _ => Clear.nil b) (by show A.units + 1 + (_ + 1) < cLine; omega) (fun _ _ e => e) (fun h' u tk hk' => ?_) hz'))
      refine wpAny_bind (wpAny_isInstance (T := "str") (b := true) rfl isSubtype_str_str ?_)
      exact wpAny_pure ⟨_, rfl, hQ h' u tk hk'⟩
end
end PySem
namespace L2
open PySem PySem.Spec PyProof.Rows PySem.GW
section
variable {X : Cx}
/-- repr(x) of data: not a tuple, not an empty list -/
def rRepr (K : PySem.W.Frag) : List V → Hp → VK → Prop := fun xs H Q => ∃ x d, xs = [x] ∧ Dp K H x d ∧ PyData.showable d = true ∧ PyData.hasDict d = false ∧ d ≠ .list [] ∧ (∀ ds, d ≠ .tuple ds) ∧ PyData.depth d ≤ 60 ∧ (PyData.shown d).length ≤ sizeLine ∧ Q (.str (PyData.shown d)) H
theorem call_repr (hg : X.A.guards = some []) (hu : X.A.units + 70 < cLine) : CallR X (.builtin "repr") (rRepr X.K) := by
  intro pins s σ H xs us Q I r h
  obtain ⟨x, d, rfl, hd, hs, hD, hn, ht, hp, hz, q⟩ := h
  obtain ⟨u, rfl, ru⟩ := vals1 r
  cases hd with
  | non =>
    cases (show u = Value.none from ru)
    exact PySem.P.repr_of_none ⟨.str _, H, I.tok _, ⟨_, rfl⟩, by simpa only [PyData.shown] using q⟩
  | bl b =>
    cases (show u = Value.bool b from ru)
    exact PySem.P.repr_of_bool ⟨.str _, H, I.tok _, ⟨_, rfl⟩, by simpa only [PyData.shown] using q⟩
  | int i =>
    obtain ⟨t, rfl⟩ := (show ∃ t, u = Value.int i t from ru)
    exact PySem.P.repr_of_int (by simpa [PyData.showable] using hs) ⟨.str _, H, I.tok _, ⟨_, rfl⟩, by simpa only [PyData.shown] using q⟩
  | str y =>
    obtain ⟨t, rfl⟩ := (show ∃ t, u = Value.str y t from ru)
    exact PySem.P.repr_of_str ⟨.str _, H, I.tok _, ⟨_, rfl⟩, by simpa only [PyData.shown] using q⟩ (by simpa only [PyData.shown] using hz)
  | @lst a xs ds h1 h2 =>
    cases (show u = Value.ref a from ru)
    obtain ⟨as, rd⟩ := Dp.reads I (.list ds) (.ref a) (.ref a) (.lst h1 h2) rfl
    exact repr_of_list rd (fun e => hn (by rw [e])) hs hD hz hg (by omega) fun h' u tk hk => ⟨.str _, H, I.kept hk, ⟨_, rfl⟩, q⟩
  | @tup a xs ds h1 h2 => exact absurd rfl (ht ds)
end
end L2
set_option Elab.async false
set_option linter.all false
set_option maxRecDepth 100000
set_option maxHeartbeats 4000000
/-! general: an own class beside other kinds, isinstance of a caught error, defs called where no repr is under way -/
namespace PySem.W
open PySem PyProof.Rows
/-- x + b, x of an own class, b of a built-in class T that fills no number slot for it -/
theorem binop_KX {K : Frag} {h₀ : Heap} {L : Addr} {s : Shared} {m : Str → Option Value} {x C f : Addr} {ox : Obj} {od : Option Obj} {A : Around} {E : Value → Shared → Prop} {prog : Program} {w : World} {b : Value} {T : String} {Q : Value → Shared → Prop} (F : Fr h₀ L s.heap m) (X₀ : K.In h₀) (I : InstAt s.heap x ox C od) (hb : Looks (model prog w) s.heap (typeOf b) (.type T)) (hT : fillsNumberSlot (.type T) "add" = pure false) (hc : selfFirst K C = true)
    (hs : findIn K (.ref C) (PySem.dunder Operator.Add.info.2) = some (some (.ref f))) (hf : isFn K (.ref f) = true)
    (h : wpAny (model prog w) A (call (.ref f) [.ref x, b]) (CmpBack Q) E s) : wpAny (model prog w) A (binaryOp .Add (.ref x) b) Q E s := by
  have X := X₀.keeps F.keep
  obtain ⟨cd, hcd, hm⟩ := any_some hc
  obtain ⟨rest, hm⟩ : ∃ rest, cd.mro = .ref C :: rest := by
    cases q : cd.mro with
    | nil => rw [q] at hm; cases hm
    | cons a r => rw [q] at hm; exact ⟨r, by rw [List.head?_cons] at hm; cases (beq_iff_eq.mp hm); rfl⟩
  unfold binaryOp
  refine wpAny_holding (wpAny_bind ?_)
  unfold binaryOp1
  refine wpAny_bind (I.type.here (wpAny_bind (hb.here (wpAny_bind ((fills_K X hcd hm hs).here ?_)))))
  refine wpAny_bind (m := if (Value.ref C == Value.type T) = true then pure false else fillsNumberSlot (.type T) "add") ?_
  rw [if_neg (show ¬ ((Value.ref C == Value.type T) = true) from fun e => by simp at e), hT]
  refine wpAny_pure ?_
  simp only [Bool.and_false, Bool.false_eq_true, if_false, Bool.false_and]
  refine wpAny_bind (wpAny_pure ?_)
  simp only [Bool.false_eq_true, if_false]
  refine wpAny_bind (m := tryMethod (.ref x) _ b) ?_
  unfold tryMethod
  refine wpAny_bind (special_fn X I hs (beq_iff_eq.mp hf) (wpAny_mono h (fun v s' hv => ?_) fun _ _ e => e))
  cases v <;> first | exact hv.elim | exact wpAny_pure (wpAny_pure (wpAny_pure hv))
end PySem.W
namespace L2
open PySem PySem.Spec PyProof.Rows PySem.GW
section
variable {X : Cx}
/-- x op y, x of the own class at C, y of a built-in class T -/
def rOwnB (K : PySem.W.Frag) (C : Addr) (T : String) (sp : Sp) : R2 := fun x y H Q => ∃ a dx fs, x = .ref a ∧ H a = some (.ins C dx fs) ∧ TyX K H y (.type T) ∧ sp [x, y] H Q E0
theorem bop_ownB {C g : Addr} {fd : FuncData} {ps : List Str} {n : Nat} {sp : Sp} {T : String} (hT : fillsNumberSlot (.type T) "add" = pure false) (hc : PySem.W.selfFirst X.K C = true) (hs : PySem.W.findIn X.K (.ref C) (PySem.dunder Operator.Add.info.2) = some (some (.ref g))) (hf : PySem.W.isFn X.K (.ref g) = true)
    (F : FnOk X.prog X.w X.K X.mg X.base CX0 n g fd ps sp) (hb : Binds X.K fd ps []) (hr : Room n X.A) : OpR X (binaryOp .Add) (rOwnB X.K C T sp) := by
  intro pins s σ H x y v u Q I rx ry h
  obtain ⟨a, dx, fs, rfl, ha, ty, q⟩ := h
  cases (show v = Value.ref a from rx)
  obtain ⟨mA, O, _⟩ := ins_get I.hok ha
  obtain ⟨od, J, _⟩ := O.look
  obtain ⟨P, Z, p, _⟩ := kit_of I ry ty
  obtain ⟨m, hF⟩ := I.fr
  refine PySem.W.binop_KX hF I.ok.mod.kin J (Z.ty _ _ I.kIn p) hT hc hs hf ?_
  refine wpAny_mono (run_fn (us := [.ref a, u]) (vs := [.ref a, y]) (dvs := []) (ds := []) F hr hb .nil pass0 I (.cons rfl (.cons ry .nil)) q) (fun w s' z => ?_) fun _ _ x => x
  obtain ⟨z', H', I', rz, qz⟩ := z
  exact SlX.cmpback rz ⟨z', H', I', rz, qz⟩
theorem op_ownB {C g : Addr} {fd : FuncData} {ps : List Str} {n : Nat} {sp : Sp} {T : String} {op : CmpOp} (hop : ∀ a b, compareOp op a b = richCompare op a b) (hn : PySem.W.subIn X.K (.type T) (.ref C) = some false) (hs : PySem.W.findIn X.K (.ref C) (cmpInfo op).2.1 = some (some (.ref g))) (hf : PySem.W.isFn X.K (.ref g) = true)
    (F : FnOk X.prog X.w X.K X.mg X.base CX0 n g fd ps sp) (hb : Binds X.K fd ps []) (hr : Room n X.A) : OpR X (compareOp op) (rOwnB X.K C T sp) := by
  intro pins s σ H x y v u Q I rx ry h
  obtain ⟨a, dx, fs, rfl, ha, ty, q⟩ := h
  cases (show v = Value.ref a from rx)
  obtain ⟨mA, O, _⟩ := ins_get I.hok ha
  obtain ⟨od, J, _⟩ := O.look
  obtain ⟨P, Z, p, _⟩ := kit_of I ry ty
  obtain ⟨m, hF⟩ := I.fr
  rw [hop]
  refine PySem.W.cmp_K (op := op) (tb := .type T) hr.units0 hF I.ok.mod.kin J (Z.ty _ _ I.kIn p) (by unfold PySem.W.notFirst; rw [hn]; simp) hs hf ?_
  refine wpAny_mono (run_fn (us := [.ref a, u]) (vs := [.ref a, y]) (dvs := []) (ds := []) F hr hb .nil pass0 I (.cons rfl (.cons ry .nil)) q) (fun w s' z => ?_) fun _ _ x => x
  obtain ⟨z', H', I', rz, qz⟩ := z
  exact SlX.cmpback rz ⟨z', H', I', rz, qz⟩
/-- t == x, t a tuple, x of the own class at C -/
def rTupOwn (K : PySem.W.Frag) (C : Addr) (sp : Sp) : R2 := fun x y H Q => ∃ t ys a dx fs, x = .ref t ∧ y = .ref a ∧ SqT K H t ys ∧ H a = some (.ins C dx fs) ∧ sp [y, x] H Q E0
theorem op_tupOwn {C g : Addr} {fd : FuncData} {ps : List Str} {n : Nat} {sp : Sp} (hsub : PySem.W.subIn X.K (.ref C) (.type "tuple") = some false) (hs : PySem.W.findIn X.K (.ref C) (cmpInfo .Eq).2.2 = some (some (.ref g))) (hf : PySem.W.isFn X.K (.ref g) = true)
    (F : FnOk X.prog X.w X.K X.mg X.base CX0 n g fd ps sp) (hb : Binds X.K fd ps []) (hr : Room n X.A) : OpR X (compareOp .Eq) (rTupOwn X.K C sp) := by
  intro pins s σ H x y v u Q I rx ry h
  obtain ⟨t, ys, a, dx, fs, rfl, rfl, ht, ha, q⟩ := h
  cases (show v = Value.ref t from rx)
  cases (show u = Value.ref a from ry)
  obtain ⟨mA, O, _⟩ := ins_get I.hok ha
  obtain ⟨od, J, _⟩ := O.look
  obtain ⟨its, o, n', _, hg, hcl, _⟩ := L2.sqT_at I.hok I.kIn ht
  obtain ⟨m, hF⟩ := I.fr
  show wpAny (model X.prog X.w) X.A (richCompare .Eq (.ref t) (.ref a)) _ _ s
  refine PySem.W.eqT_K hr.units0 hF I.ok.mod.kin J ⟨o, hg, hcl⟩ hsub hs hf ?_
  refine wpAny_mono (run_fn (us := [.ref a, .ref t]) (vs := [.ref a, .ref t]) (dvs := []) (ds := []) F hr hb .nil pass0 I (.cons rfl (.cons rfl .nil)) q) (fun w s' z => ?_) fun _ _ x => x
  obtain ⟨z', H', I', rz, qz⟩ := z
  exact SlX.cmpback rz ⟨z', H', I', rz, qz⟩
/-- isinstance(e, c) in the suite of a caught error of the own class at C -/
def rIsS (K : PySem.W.Frag) (a C : Addr) (cls : Value) (d : Option Addr) : List V → Hp → VK → Prop := fun xs H Q => cls = .ref C ∧ (∀ dd, d = some dd → ∃ fs, H dd = some (.xd fs)) ∧ ∃ (c : V) (cv : Value) (b : Bool), xs = [.ref a, c] ∧ ClsV c cv ∧ PySem.W.kitOne K (.ref C) cv = some b ∧ Q (.bl b) H
theorem call_isS {a C : Addr} {oe : Obj} {cls : Value} {d : Option Addr} {pn : List (Addr × Obj)} (Z : ExcC X.K C) (hz : Zc cls d oe) (hf : ∃ vs, oe.data = .fields vs) : CallR (X.suite a ((a, oe) :: pn)) (.builtin "isinstance") (rIsS X.K a C cls d) := by
  intro pins s σ H xs us Q I r h
  obtain ⟨rfl, hd, c, cv, b, rfl, k, e, q⟩ := h
  obtain ⟨u1, u2, rfl, r1, r2⟩ := vals2 r
  have e2 := k.eq r2
  subst e2
  cases (show u1 = Value.ref a from r1)
  obtain ⟨hget, _⟩ := I.pin (a, oe) (List.mem_append.mpr (.inl List.mem_cons_self))
  obtain ⟨vs, hv⟩ := hf
  have nc : PySem.W.notCls oe = true := by unfold PySem.W.notCls; rw [hv]
  have J : ∃ ox od, PySem.W.InstAt s.heap a ox C od := by
    cases d with
    | none => exact ⟨oe, none, hget, hz.1, nc, by rw [hz.2]; trivial⟩
    | some dd =>
      obtain ⟨fs, hx⟩ := hd dd rfl
      obtain ⟨mA, hns, _⟩ := (show ObjOk X.prog X.w H s.heap dd (.xd fs) from I.hok dd _ hx)
      obtain ⟨od, ho, _⟩ := lookIn_ns hns
      exact ⟨oe, some od, hget, hz.1, nc, by rw [hz.2]; exact ho⟩
  exact PySem.W.kia_one (kit_err Z) I.kIn J e (fun z => nomatch z) fun tk => ⟨.bl b, H, I.tok tk, rfl, q⟩
end
/-! ### defs called where no repr is under way -/
/-- as FnOk, called only where no repr is under way -/
structure FnOkG (P : Program) (w : World) (K : PySem.W.Frag) (mg : Str → Option Value) (base : Heap) (CX : CXT) (k : Nat) (f : Addr) (fd : FuncData) (ps : List Str) (sp : Sp) : Prop where
  len : ∀ vs H Q E, sp vs H Q E → vs.length = ps.length
  run : ∀ (A : Around) (outer : List Env) (s : Shared) (H : Hp) (args : Args) (us : List Value) (vs : List V) (Q : VK) (E : XK), A.guards = some [] → Room k A → Env0 P w K mg base A outer s H → BindsTo s fd args (ps.zip us) → Vals vs us → sp vs H Q E →
    codeAny (model P w) A (.call (.ref f) args) (CR CX outer P w H s Q E) s
section
variable {P : Program} {w : World} {K : PySem.W.Frag} {mg : Str → Option Value} {base : Heap}
theorem Fun.okG {x qual : Str} {st : Stmt} {f : Addr} {fd : FuncData} {N ps : List Str} {k : Nat} {sp : Sp} (F : Fun K x qual st f fd) (S : FnScope N ps (defScope st)) (len : ∀ vs H Q E, sp vs H Q E → vs.length = ps.length)
    (hbody : ∀ (A : Around) (outer : List Env) (s : Shared) (H : Hp) (vs : List V) (Q : VK) (E : XK), A.guards = some [] → Room k (A.deeper (envOfC qual (defScope st) s.heap.objs.size f (.ref (cdA K f)))) → sp vs H Q E →
      ∃ t, PSs (cxOf CX0 P w K mg base N qual (defScope st) f (.ref (cdA K f)) A outer s H E).nox (defBody st) t ∧ t { nx := fun _ H' => Q .non H', rt := Q } (start N vs) H) : FnOkG P w K mg base CX0 (k + 1) f fd ps sp := by
  obtain ⟨oc, od, kV, doc, pm, an, cdv, ct, osl, rfl, lk, hcd⟩ := F.ex
  obtain ⟨c, rfl⟩ := He.codeIn_ref hcd
  have e : cdA K f = c := by
    unfold cdA
    rw [lk]
  rw [e] at hbody
  refine ⟨len, fun A outer s H args us vs Q E hg hr e0 hb r hsp => ?_⟩
  refine LamX.run_ofS lk hcd S hr e0 hb r (len _ _ _ _ hsp) fun hr' => ?_
  obtain ⟨t, h, q⟩ := hbody A outer s H vs Q E hg hr' hsp
  exact ⟨t, h.nox, q⟩
end
section
variable {X : Cx} {CX : CXT} {k : Nat} {f : Addr} {fd : FuncData} {ps : List Str} {sp : Sp} {dvs : List V} {ds : List Value} {E : XK} {x : Str} {p pos : Pos} {e : Expr} {es : List Expr} {t : TA}
theorem pe_callG (hgd : X.A.guards = some []) (F : FnOkG X.prog X.w X.K X.mg X.base CX k f fd ps sp) (hr : Room k X.A) (hg : Gl X x) (hm : X.mg x = some (.ref f)) (hk : PySem.W.keepIn X.K (.ref f) = true) (hb : Binds X.K fd ps ds) (hd : Vals dvs ds) (hx : Passes CX X E)
    (ha : PA X (e :: es) t) (hdb : (x == ("__debug__" : Str)) = false := by decide) (he : starEach (e :: es) X.env = (false, eval e X.env) :: starEach es X.env := by rfl) (hpl : (backTo pos (starEach es X.env)).any (·.1) = false := by rfl) :
    PE X (.Call (.Name x p) (e :: es) [] pos) (tCall sp dvs E t) := by
  refine ⟨fun pins s σ H Q I h => ?_⟩
  refine wpAny_Call_Name_kw (ld_glob I hg hm ?_ hdb)
  refine PySem.W.callWith_K (h₀ := X.base) I.ok.mod.kin hk (thn (ha.run pos pins s σ H _ I h) fun us s1 ⟨vs, H1, I1, r, q⟩ => ⟨I1.kIn, ?_⟩) he hpl
  have r2 : Vals (vs ++ dvs) (us ++ ds) := r.append hd
  have hl : (us ++ ds).length = ps.length := by rw [← r2.length]; exact F.len _ _ _ _ q
  refine wpAny_call (codeAny_mono (F.run X.A X.stack s1 H1 ⟨us, []⟩ (us ++ ds) (vs ++ dvs) Q E hgd hr I1.env0 (hb s1 us I1.kIn hl) r2 q) fun r s' hq => ?_)
  cases r with
  | error e => exact hx pins σ H1 s1 e s' I1 hq
  | ok fl =>
    cases fl with
    | ret u => exact I1.after hq
    | next => exact False.elim hq
    | brk => exact False.elim hq
    | cont => exact False.elim hq
end
end L2
set_option Elab.async false
set_option linter.all false
set_option maxRecDepth 100000
set_option maxHeartbeats 4000000
/-! general: t[::k] of a tuple -/
namespace HT
open PySem PySem.Spec PyProof.Rows L2
/-- how many places xs[::k] has -/
def stepN (n k : Nat) : Nat := if 0 < n then (n - 1) / k + 1 else 0
def stepL {α : Type} (xs : List α) (k : Nat) : List α := (List.range (stepN xs.length k)).filterMap fun m => xs[m * k]?
theorem stepL_le {α : Type} (xs : List α) (k : Nat) : (stepL xs k).length ≤ xs.length := by
  have e1 : (stepL xs k).length ≤ stepN xs.length k := by
    unfold stepL
    refine Nat.le_trans (List.length_filterMap_le _ _) ?_
    rw [List.length_range]
    exact Nat.le_refl _
  have e2 : stepN xs.length k ≤ xs.length := by
    unfold stepN
    split
    · have := Nat.div_le_self (xs.length - 1) k
      omega
    · omega
  omega
section
variable {prog : Program} {w : World} {A : Around} {E : Value → Shared → Prop} {s : Shared}
theorem adjust_step (k n : Nat) : Builtin.Slice.sliceAdjust none none (k : Int) (n : Int) = (0, (n : Int)) := by
  have h1 : ¬ ((k : Int) < 0) := by omega
  unfold Builtin.Slice.sliceAdjust
  simp only [h1, if_false]
theorem places_step (k n : Nat) (hk : 1 ≤ k) : Builtin.Slice.slicePlaces 0 (n : Int) (k : Int) = stepN n k := by
  unfold Builtin.Slice.slicePlaces stepN
  have h1 : (k : Int) > 0 := by omega
  rw [if_pos h1]
  by_cases c : 0 < n
  · rw [if_pos (by omega), if_pos c]
    have e : ((n : Int) - 0 - 1) = ((n - 1 : Nat) : Int) := by omega
    rw [e]
    show (((n - 1 : Nat) : Int) / (k : Int) + 1).toNat = _
    rw [show (((n - 1 : Nat) : Int) / (k : Int) + 1) = (((n - 1) / k + 1 : Nat) : Int) by push_cast; rfl]
    exact Int.toNat_natCast _
  · rw [if_neg (by omega), if_neg c]
    rfl
theorem sliceApplied_step {sl : Addr} {vs : Value} {k n : Nat} {Q : Int × Int × Nat → Shared → Prop} (hs : s.heap.IsSliceOf sl .none .none vs) (ps : IsPart vs (some (k : Int))) (hk : 1 ≤ k)
    (h : Q (0, (k : Int), stepN n k) s) : wpAny (model prog w) A (Builtin.Slice.sliceApplied (.ref sl) (pure (n : Int))) Q E s := by
  obtain ⟨os, hos, hcs, hds⟩ := id hs
  unfold Builtin.Slice.sliceApplied Builtin.Slice.sliceFields
  refine wpAny_bind (wpAny_bind (wpAny_field hos hds (x := .none) rfl (wpAny_bind (wpAny_field hos hds (x := .none) rfl (wpAny_bind (wpAny_field hos hds (x := vs) rfl (wpAny_pure ?_)))))))
  refine wpAny_bind (slicePart_ ps ?_)
  show wpAny _ _ (if ((k : Int) == 0) = true then _ else _) _ _ s
  rw [if_neg (by simp; omega)]
  refine wpAny_bind (slicePart_none (wpAny_bind (slicePart_none (wpAny_bind (wpAny_pure ?_)))))
  show wpAny _ _ (match Builtin.Slice.sliceAdjust none none (k : Int) (n : Int) with | (lo, hi) => pure (lo, (k : Int), Builtin.Slice.slicePlaces lo hi (k : Int))) _ _ s
  rw [adjust_step]
  show wpAny _ _ (pure ((0 : Int), (k : Int), Builtin.Slice.slicePlaces 0 (n : Int) (k : Int))) _ _ s
  rw [places_step k n hk]
  exact wpAny_pure h
theorem pick_step (xs : Array Value) (k c : Nat) : ((List.range c).filterMap fun (m : Nat) => xs[((0 : Int) + (m : Int) * (k : Int)).toNat]?).toArray = ((List.range c).filterMap fun m => xs.toList[m * k]?).toArray := by
  have e : (fun (m : Nat) => xs[((0 : Int) + (m : Int) * (k : Int)).toNat]?) = fun m => xs.toList[m * k]? := by
    funext m
    have : ((0 : Int) + (m : Int) * (k : Int)).toNat = m * k := by
      rw [show ((0 : Int) + (m : Int) * (k : Int)) = ((m * k : Nat) : Int) by push_cast; omega]
      exact Int.toNat_natCast _
    rw [this]
    simp
  rw [e]
theorem getItem_tuple_step {t sl : Addr} {items : Array Value} {vs : Value} {k : Nat} {Q : Value → Shared → Prop} (ht : IsTup s.heap t items) (hs : s.heap.IsSliceOf sl .none .none vs) (ps : IsPart vs (some (k : Int))) (hk : 1 ≤ k)
    (h1 : k = 1 → Q (.ref t) s) (h2 : k ≠ 1 → Q (.ref s.heap.objs.size) { s with heap := s.heap.push { cls := .type "tuple", data := .seq (stepL items.toList k).toArray } })
    (hsz : items.size ≤ sizeLine) : wpAny (model prog w) A (getItem (.ref t) (.ref sl)) Q E s := by
  have hlen : (stepL items.toList k).length ≤ sizeLine := by
    have e1 : (stepL items.toList k).length ≤ stepN items.size k := by
      unfold stepL
      refine Nat.le_trans (List.length_filterMap_le _ _) ?_
      rw [List.length_range, Array.length_toList]
      exact Nat.le_refl _
    have e2 : stepN items.size k ≤ items.size := by
      unfold stepN
      split
      · have := Nat.div_le_self (items.size - 1) k
        omega
      · omega
    omega
  have htake : sizeOk (.seq (stepL items.toList k).toArray) := by
    show (stepL items.toList k).toArray.size ≤ sizeLine
    rw [List.size_toArray]
    exact hlen
  obtain ⟨os, hos, hcs, hds⟩ := id hs
  have hTs : s.TypeIs (.ref sl) "slice" := ⟨os, hos, hcs⟩
  unfold getItem
  try with_reducible refine wpAny_holding ?_
  first | refine wpAny_bind (wpAny_pure ?_) | skip
  refine wpAny_bind (wpAny_sequenceKey ht.typeIs (by decide) ?_)
  refine wpAny_bind (wpAny_callSpecial?_slot (name := Str.ofString "__getitem__") ht.typeIs PyProof.Rows.slot_tuple_getitem
    (wpAny_call_entry PyProof.Rows.slot_tuple_getitem ht.typeIs entry_tuple_getitem ?_ (args_tuple_getitem _ _)))
  show wpAny _ _ (Builtin.Tuple.tupleItemsOf (.ref t) >>= _) _ _ s
  refine wpAny_bind (tupleItemsOf_ ht ?_)
  refine wpAny_bind (wpAny_typeOf hTs ?_)
  rw [if_pos (by decide)]
  refine wpAny_bind (sliceApplied_step hs ps hk ?_)
  show wpAny _ _ (if ((0 : Int) == 0 && (k : Int) == 1 && stepN items.size k == items.size) = true then _ else _) _ _ s
  by_cases c : k = 1
  · subst c
    have hyes : ((0 : Int) == 0 && (((1 : Nat) : Int)) == 1 && stepN items.size 1 == items.size) = true := by
      have e : stepN items.size 1 = items.size := by
        unfold stepN
        split
        · rw [Nat.div_one]; omega
        · omega
      rw [e]
      simp
    rw [if_pos hyes]
    refine wpAny_bind ?_
    show wpAny _ _ (typeOf (.ref t) >>= fun T => pure (T == .type "tuple")) _ _ s
    refine wpAny_bind (wpAny_typeOf ht.typeIs (wpAny_pure ?_))
    first
      | rw [if_pos (by decide)]
      | simp only [beq_self_eq_true, if_true]
    first
      | exact wpAny_bind (wpAny_rule (wpAny_pure ⟨_, rfl, wpAny_pure (h1 rfl)⟩))
      | exact wpAny_bind (wpAny_rule (wpAny_bind (wpAny_pure (wpAny_pure ⟨_, rfl, wpAny_pure (h1 rfl)⟩))))
  · have hno : ¬ (((0 : Int) == 0 && (k : Int) == 1 && stepN items.size k == items.size) = true) := by
      intro q
      rw [Bool.and_eq_true, Bool.and_eq_true] at q
      have q1 : (k : Int) = 1 := eq_of_beq q.1.2
      omega
    rw [if_neg hno, pick_step]
    have h := h2 c
    unfold stepL at h htake
    rw [Array.length_toList] at h htake
    first
      | exact wpAny_bind (m := Builtin.Tuple.tupleExact _) (wpAny_newObj_type (wpAny_pure ⟨_, rfl, wpAny_pure h⟩) htake)
      | exact wpAny_bind (m := Builtin.Tuple.tupleExact _) (wpAny_newObj_type (wpAny_bind (wpAny_pure (wpAny_pure ⟨_, rfl, wpAny_pure h⟩))) htake)
      | exact wpAny_bind (wpAny_bind (m := Builtin.Tuple.tupleExact _) (wpAny_newObj_type (wpAny_pure (wpAny_pure ⟨_, rfl, wpAny_pure h⟩)) htake))
      | exact wpAny_bind (wpAny_bind (m := Builtin.Tuple.tupleExact _) (wpAny_newObj_type (wpAny_pure ⟨_, rfl, wpAny_pure h⟩) htake))
end
end HT
namespace L2
open PySem PySem.Spec PyProof.Rows PySem.GW
theorem Vals.step {vs : List V} {us : List Value} (r : Vals vs us) (k : Nat) : Vals (HT.stepL vs k) (HT.stepL us k) := by
  have hl := r.length
  unfold HT.stepL
  rw [hl]
  have key : ∀ l : List Nat, Vals (l.filterMap fun m => vs[m * k]?) (l.filterMap fun m => us[m * k]?) := by
    intro l
    induction l with
    | nil => exact .nil
    | cons m l ih =>
      cases e : vs[m * k]? with
      | none =>
        have e2 : us[m * k]? = none := by
          rw [List.getElem?_eq_none_iff] at e ⊢
          omega
        rw [List.filterMap_cons_none (f := fun m => vs[m * k]?) e, List.filterMap_cons_none (f := fun m => us[m * k]?) e2]
        exact ih
      | some v =>
        obtain ⟨u, hu, ru⟩ := r.get e
        rw [List.filterMap_cons_some (f := fun m => vs[m * k]?) e, List.filterMap_cons_some (f := fun m => us[m * k]?) hu]
        exact .cons ru ih
  exact key _
section
variable {X : Cx}
/-- t[::k] -/
def tStepT (K : PySem.W.Frag) (te tk : TE) : TE := fun σ H Q => te σ H fun x H1 => tPart tk σ H1 fun o H2 => ∃ a xs k, x = .ref a ∧ o = some ((k : Nat) : Int) ∧ 1 ≤ k ∧ SqT K H2 a xs ∧ (k = 1 → Q (.ref a) H2) ∧ (k ≠ 1 → ∀ p, H2 p = none → Q (.ref p) (upd H2 p (.tup (HT.stepL xs k))))
theorem pe_stepT {e ek : Expr} {te tk : TE} {p3 pos : Pos} (he : PE X e te) (hk : PE X ek tk) : PE X (.Subscript e (.Slice none none (some ek) p3) pos) (tStepT X.K te tk) := by
  refine ⟨fun pins s σ H Q I h => ?_⟩
  refine Subscript_ (thn (he.run pins s σ H _ I h) fun v s1 ⟨x, H1, I1, r1, q1⟩ => ?_)
  refine wpAny_Slice (thn (po_none.run pins s1 σ H1 (fun o H2 => o = none ∧ H2 = H1) I1 ⟨rfl, rfl⟩) fun vl s2 ⟨l, H2, I2, pl, el, e2⟩ => ?_)
  subst el e2
  refine thn (po_none.run pins s2 σ H2 (fun o H3 => o = none ∧ H3 = H2) I2 ⟨rfl, rfl⟩) fun vu s3 ⟨u, H3, I3, pu, eu, e3⟩ => ?_
  subst eu e3
  refine thn ((po_some hk).run pins s3 σ H3 _ I3 q1) fun vs s4 ⟨o, H4, I4, ps, q⟩ => ?_
  obtain ⟨a, xs, k, rfl, rfl, hk1, hx, c1, c2⟩ := q
  cases r1
  cases pl
  cases pu
  have I5 : Inv X pins σ H4 { s4 with heap := s4.heap.push { cls := .type "slice", data := .fields #[.none, .none, vs] } } := I4.kept (t' := s4.toks) fun b ob q => Heap.get?_push_of_some _ q
  obtain ⟨its, r, ht, hz⟩ := I5.tuple hx
  have hlen := r.length
  show wpAny (model X.prog X.w) X.A (subscriptTail e (.Slice none none (some ek) p3) (.ref a) (.ref s4.heap.objs.size)) (EP X pins σ Q) X.xe { s4 with heap := s4.heap.push { cls := .type "slice", data := .fields #[.none, .none, vs] } }
  refine tail_any (ops := [.ref a, .ref s4.heap.objs.size]) ht.typeIs (PyProof.Rows.slot_tuple_getitem.lookup) ?_ (by with_unfolding_all rfl)
  refine HT.getItem_tuple_step ht (Heap.IsSliceOf.new _ .none .none vs) ps hk1 (fun e => ⟨.ref a, H4, I5, rfl, c1 e⟩) (fun e => ?_) (by rw [List.size_toArray]; omega)
  refine ⟨.ref _, _, I5.laid (t' := s4.toks) (o := .tup (HT.stepL xs k)) (fun b ob q => Heap.get?_push_of_some _ q) (Nat.le_refl _) ?_, rfl, c2 e _ (I5.hok.fresh (Nat.le_refl _))⟩
  have rs := r.step k
  exact ⟨Nat.le_trans (HT.stepL_le xs k) hz, _, rs, ⟨_, Heap.get?_push_size _ rfl, rfl, 0, rfl⟩⟩
end
end L2
set_option Elab.async false
set_option linter.all false
set_option maxRecDepth 100000
set_option maxHeartbeats 4000000
/-! general: for i, x in enumerate(a tuple) -/
namespace PySem
open PySem PyProof.Rows PySem.SeqAt
section
variable {prog : Program} {w : World} {A : Around} {E : Value → Shared → Prop} {s : Shared}
theorem nextOf_tup_item {it t : Addr} {i : Nat} {items : Array Value} {x : Value} {Q : Value → Shared → Prop} (hit : s.heap.IsTupleIter it t i) (ht : s.heap.IsTuple t items) (hx : items[i]? = some x)
    (hQ : ∀ h', h'.IsTupleIter it t (i + 1) → Heap.SameBut it s.heap h' → Q x { s with heap := h' }) : wpAny (model prog w) A (Builtin.SmallTypes.nextOf (.ref it)) Q E s := by
  obtain ⟨o, ho, hc, hd⟩ := id hit
  obtain ⟨ol, hol, _, nl, hdl⟩ := ht
  unfold Builtin.SmallTypes.nextOf
  refine wpAny_bind (wpAny_callSpecial?_slot (name := Str.ofString "__next__") hit.typeIs F.slot_tuple_iterator_next
    (wpAny_call_entry F.slot_tuple_iterator_next hit.typeIs F.entry_tuple_iterator_next ?_ (F.args_tuple_iterator_next_1 _)))
  show wpAny _ _ (field (.ref it) 0 >>= _) _ _ s
  refine wpAny_bind (wpAny_field ho hd (x := .ref t) rfl ?_)
  show wpAny _ _ (if (Value.ref t == Value.none) = true then _ else _) _ _ s
  rw [if_neg (show ¬ ((Value.ref t == Value.none) = true) from Bool.false_ne_true)]
  show wpAny _ _ (field (.ref it) 1 >>= _) _ _ s
  refine wpAny_bind (wpAny_field ho hd (x := .int i 0) rfl ?_)
  show wpAny _ _ (seqItems? (.ref t) >>= _) _ _ s
  refine wpAny_bind (wpAny_seqItems hol hdl ?_)
  simp only [Int.toNat_natCast, hx]
  refine wpAny_bind (wpAny_setField ho hd (by simp) (wpAny_pure ⟨x, rfl, wpAny_pure (hQ _ ?_ (Heap.SameBut.update ..))⟩))
  exact ⟨_, Heap.get?_update_self _ ho (Obj.isFreed_of_fields (Obj.data_mapFields hd _)), (Obj.cls_mapFields ..).trans hc, by rw [Obj.data_mapFields hd]; simp [rawInt]⟩
theorem nextOf_tup_end {it t : Addr} {i : Nat} {items : Array Value} {Q : Value → Shared → Prop} (hh : A.handled = none) (hit : s.heap.IsTupleIter it t i) (ht : s.heap.IsTuple t items) (hx : items[i]? = none)
    (hE : ∀ h' e, Heap.ExtBut it s.heap h' → (∃ o, h'.get? e = some o ∧ o.cls = .type "StopIteration") → E (.ref e) { s with heap := h' }) : wpAny (model prog w) A (Builtin.SmallTypes.nextOf (.ref it)) Q E s := by
  obtain ⟨o, ho, hc, hd⟩ := id hit
  obtain ⟨ol, hol, _, nl, hdl⟩ := ht
  unfold Builtin.SmallTypes.nextOf
  refine wpAny_bind (wpAny_callSpecial?_slot (name := Str.ofString "__next__") hit.typeIs F.slot_tuple_iterator_next
    (wpAny_call_entry F.slot_tuple_iterator_next hit.typeIs F.entry_tuple_iterator_next ?_ (F.args_tuple_iterator_next_1 _)))
  show wpAny _ _ (field (.ref it) 0 >>= _) _ _ s
  refine wpAny_bind (wpAny_field ho hd (x := .ref t) rfl ?_)
  show wpAny _ _ (if (Value.ref t == Value.none) = true then _ else _) _ _ s
  rw [if_neg (show ¬ ((Value.ref t == Value.none) = true) from Bool.false_ne_true)]
  show wpAny _ _ (field (.ref it) 1 >>= _) _ _ s
  refine wpAny_bind (wpAny_field ho hd (x := .int i 0) rfl ?_)
  show wpAny _ _ (seqItems? (.ref t) >>= _) _ _ s
  refine wpAny_bind (wpAny_seqItems hol hdl ?_)
  simp only [Int.toNat_natCast, hx]
  refine wpAny_bind (wpAny_rule (wpAny_bind (wpAny_setField ho hd (by simp) ?_)))
  show wpAny _ _ (newExc (.type "StopIteration") [] >>= _) _ _ _
  refine wpAny_bind ?_
  simp only [newExc, newTuple]
  refine wpAny_bind (wpAny_newObj_type ?_ (by size_fits))
  refine wpAny_bind (m := firstArgMember _ _) (wpAny_of_eq (a := Value.none) (by first | rfl | (simp only [firstArgMember]; rfl)) ?_)
  refine wpAny_newObj_type ?_ (by size_fits)
  simp only [raiseNew]
  refine wpAny_bind (wpAny_handled ?_)
  first | rw [show A.in1.handled = none from hh] | rw [hh]
  refine wpAny_bind (wpAny_pure (wpAny_throw ?_))
  exact hE _ _ (((Heap.SameBut.update ..).extBut.push _).push _) ⟨_, Heap.get?_push_size _ rfl, rfl⟩
end
theorem Draws.tup {prog : Program} {w : World} {A : Around} (hh : A.handled = none) (it l : Addr) (hne : l ≠ it) (items : Array Value) :
    Draws prog w A it [it, l] items.size (fun i v => items[i]? = some v) (fun i h => h.IsTupleIter it l i ∧ h.IsTuple l items) where
  live := fun _ _ st => let ⟨o, ho, _⟩ := st.1; ⟨o, ho⟩
  frame := fun _ _ _ st hk => ⟨st.1.at fun o e => hk it (by simp) o e, let ⟨o, ho, r⟩ := st.2; ⟨o, hk l (by simp) o ho, r⟩⟩
  item := fun i s Q E hi st hQ => by
    refine nextOf_tup_item st.1 st.2 (x := items[i]) (by simp [hi]) fun h' hit' hs' => ?_
    exact hQ _ h' s.toks (by simp [hi]) ⟨hit', st.2.extBut hs'.extBut hne⟩ hs'
  done := fun s Q E st hE => nextOf_tup_end hh st.1 st.2 (by simp) hE
theorem pyNext_enumT_end {prog : Program} {w : World} {A : Around} {E : Value → Shared → Prop} {s : Shared} {e it t : Addr} {i : Nat} {items : Array Value} {old : Value} {Q : Option Value → Shared → Prop} (hh : A.handled = none) (he : IsEnum s.heap e it i old) (hit : s.heap.IsTupleIter it t i) (ht : s.heap.IsTuple t items) (hx : items[i]? = none)
    (hQ : ∀ h', Heap.ExtBut it s.heap h' → Q none { s with heap := h' }) : wpAny (model prog w) A (pyNext (.ref e)) Q E s := by
  have hT : s.TypeIs (.ref e) "enumerate" := ⟨_, he, rfl⟩
  unfold pyNext
  refine wpAny_bind (wpAny_attempt (wpAny_callSpecial?_slot (name := Str.ofString "__next__") hT F.slot_enumerate_next
    (wpAny_call_entry F.slot_enumerate_next hT F.entry_enumerate_next ?_ (F.args_enumerate_next_1 _))))
  show wpAny _ _ (field (.ref e) 2 >>= _) _ _ _
  refine wpAny_bind (wpAny_field he rfl (x := .ref it) rfl ?_)
  refine wpAny_bind (nextOf_tup_end hh hit ht hx fun h' x he' hx' => ?_)
  obtain ⟨o, ho, hc⟩ := hx'
  refine wpAny_bind (wpAny_isInstance (T := "StopIteration") (b := true) ⟨o, ho, hc⟩ isSubtype_stop ?_)
  exact wpAny_pure (hQ _ he')
theorem meets_enum_newT (l : Addr) (items : Array Value) (n : Nat) (dct : Option Addr) (sl : Array (Option Value)) :
    Meets (Builtin.«enumerate.__new__» ⟨[.type "enumerate", .ref l], []⟩) (fun _ R s => s.heap.get? l = some { cls := .type "tuple", dict := dct, data := .seq items n, slots := sl } ∧
      R (.ok (.ret (.ref (s.heap.push { cls := .type "tuple_iterator", data := .fields #[.ref l, .int 0 0] }).objs.size)))
        { s with heap := (s.heap.push { cls := .type "tuple_iterator", data := .fields #[.ref l, .int 0 0] }).push { cls := .type "enumerate", data := .fields #[.none, .bool false, .ref s.heap.objs.size, rawInt 0, .none, .none] } }) :=
  .of_wp fun prog w A R s h => by
    obtain ⟨hp, g, d, tk, os⟩ := s; obtain ⟨hl, h⟩ := h
    have hsub := sub_enumerate
    have hL : Heap.IsTuple (Shared.heap ⟨hp, g, d, tk, os⟩) l items := ⟨_, hl, rfl, n, rfl⟩
    wp_walk using PySem.AutoSeq1.wpAny_loadPart' hl
    refine wpAny_stack_any fun st => wpAny_pure ?_
    split
    · rename_i c _ _ _ _ _
      cases (c == Value.type "enumerate")
      · wp_walk using PySem.AutoSeq1.wpAny_loadPart' hl, wpAny_pyIter_tuple hL
        exact ⟨_, rfl, h⟩
      · wp_walk using PySem.AutoSeq1.wpAny_loadPart' hl, wpAny_pyIter_tuple hL
        exact ⟨_, rfl, h⟩
    · wp_walk using PySem.AutoSeq1.wpAny_loadPart' hl, wpAny_pyIter_tuple hL
      exact ⟨_, rfl, h⟩
section
variable {prog : Program} {w : World} {A : Around} {E : Value → Shared → Prop} {s : Shared}
theorem call_enumerate_tup {l : Addr} {items : Array Value} {Q : Value → Shared → Prop} (hL : s.heap.IsTuple l items)
    (h : ∀ h', IsEnum h' (s.heap.objs.size + 1) s.heap.objs.size 0 .none → h'.IsTupleIter s.heap.objs.size l 0 → h'.objs.size = s.heap.objs.size + 2 →
      (∀ b o, s.heap.get? b = some o → h'.get? b = some o) → Q (.ref (s.heap.objs.size + 1)) { s with heap := h' }) :
    wpAny (model prog w) A (call (.type "enumerate") [.ref l]) Q E s := by
  obtain ⟨⟨c, dct, dt, sl⟩, hl, hc, n, hd⟩ := hL
  replace hc : c = .type "tuple" := hc
  replace hd : dt = .seq items n := hd
  subst hc hd
  refine callType_new F.called_enumerate (by decide) (F.typeCall_enumerate_1 _) (F.newCall_enumerate_1 _) (fun obj => F.args_object_init_2 obj _) F.entry_enumerate_new
    (meets_enum_newT l items n dct sl) ⟨hl, ?_⟩
  have hz : (s.heap.push { cls := .type "tuple_iterator", data := .fields #[.ref l, .int 0 0] }).objs.size = s.heap.objs.size + 1 := Heap.size_push ..
  show _ ∧ _
  rw [hz]
  have he : IsEnum ((s.heap.push { cls := .type "tuple_iterator", data := .fields #[.ref l, .int 0 0] }).push
      { cls := .type "enumerate", data := .fields #[.none, .bool false, .ref s.heap.objs.size, rawInt 0, .none, .none] }) (s.heap.objs.size + 1) s.heap.objs.size 0 .none := by
    have := Heap.get?_push_size (s.heap.push { cls := .type "tuple_iterator", data := .fields #[.ref l, .int 0 0] })
      (o := { cls := .type "enumerate", data := .fields #[.none, .bool false, .ref s.heap.objs.size, rawInt 0, .none, .none] }) rfl
    rw [hz] at this; exact this
  exact ⟨⟨_, he, rfl⟩, h _ he ⟨_, Heap.get?_push_of_some _ (Heap.get?_push_size _ rfl), rfl, rfl⟩ (by rw [Heap.size_push, hz]) fun b o x => Heap.get?_push_of_some _ (Heap.get?_push_of_some _ x)⟩
end
end PySem
namespace L2
open PySem PySem.Spec PyProof.Rows PySem.GW
/-- the tuple at a, each item in a new pair -/
def IteT (K : PySem.W.Frag) (a : Addr) : It :=
  ⟨fun i H => ∃ (xs : List V) (x : V), SqT K H a xs ∧ xs[i]? = some x, fun i H v H' => ∃ T x, v = .ref T ∧ H T = none ∧ H' = upd H T (.tup [.int (i : Nat), x]) ∧ ∀ xs, SqT K H a xs → xs[i]? = some x, fun i H => ∃ xs : List V, SqT K H a xs ∧ xs.length ≤ i⟩
theorem turn_enumT {P : Program} {w : World} {K : PySem.W.Frag} {elts : List Expr} {kk : Nat} {tpos : Pos} (a e it : Addr) (hai : a ≠ it) (hae : e ≠ a) :
    Turn P w K (.Tuple elts kk tpos) (IteT K a) [e, it] e (fun i h => (∃ old, IsEnum h e it ((i : Nat) : Int) old) ∧ h.IsTupleIter it a i ∧ e ≠ it) where
  mem := by simp
  obj := fun i h st b hb => by
    obtain ⟨⟨old, he⟩, ⟨o, ho, hc, hd⟩, _⟩ := st
    have e' : b = e ∨ b = it := by simpa using hb
    rcases e' with z | z
    · rw [z]; exact ⟨_, he, fun v q => nomatch q⟩
    · rw [z]; exact ⟨o, ho, fun v q => by rw [hd] at q; cases q⟩
  keep := fun i h h' st k => let ⟨⟨old, he⟩, hi, hne⟩ := st; ⟨⟨old, k e (by simp) _ he⟩, hi.at fun o q => k it (by simp) o q, hne⟩
  item := by
    intro X hP hw hK hc i pins s σ H E I hf st hg
    subst hP hw hK
    obtain ⟨⟨old, he⟩, hit, hne⟩ := st
    obtain ⟨xs, x, hq, hx⟩ := hg
    obtain ⟨its, rv, p, hz⟩ := I.tuple hq
    obtain ⟨u, hu, ru⟩ := rv.get hx
    have hel : e < s.heap.objs.size := Heap.lt_size he
    have hil : it < s.heap.objs.size := by obtain ⟨_, q, _⟩ := hit; exact Heap.lt_size q
    have hlt : i < its.toArray.size := by
      rw [List.size_toArray]
      exact (List.getElem?_eq_some_iff.mp hu).1
    refine wpAny_pyNext_enum_itemD (Draws.tup (A := X.A.in1) (I.ok.hd hc) it a hai its.toArray) he ⟨hit, p⟩ hlt hne (by simp [hne, hae]) fun x' h' tk hP ho hst hT hsz hk => ?_
    have e1 : x' = u := by
      have : its.toArray[i]? = some x' := hP
      rw [List.getElem?_toArray, hu] at this
      exact (Option.some.inj this).symm
    subst e1
    refine ⟨_, rfl, wpAny_letOwnedTupleGo_enum (s := { s with heap := h', toks := tk + 1 }) ho fun h'' he' sb => ?_⟩
    have hT2 : h''.get? s.heap.objs.size = some { cls := .type "tuple", data := .seq #[.int i tk, x'] } := (sb.2 _ (Nat.ne_of_gt hel)).trans hT
    have new : ObjOk X.prog X.w (upd H s.heap.objs.size (.tup [.int (i : Nat), x])) h'' s.heap.objs.size (.tup [.int (i : Nat), x]) :=
      ⟨by show 2 ≤ sizeLine; decide, [.int i tk, x'], .cons ⟨_, rfl⟩ (.cons ru .nil), ⟨_, hT2, rfl, _, rfl⟩⟩
    have I1 : Inv X pins σ (upd H s.heap.objs.size (.tup [.int (i : Nat), x])) { s with heap := h'', toks := tk + 1 } :=
      I.turnedNew (ch := [e, it]) (fun b ob hb q => (sb.2 b (fun z => hb (by simp [z]))).trans (hk b ob (fun z => hb (by simp [z])) (fun z => hb (by simp [z])) q)) hf (Nat.le_refl _) new
    refine ⟨.ref s.heap.objs.size, _, I1, rfl, ⟨_, x, rfl, I.hok.fresh (Nat.le_refl _), rfl, fun ys hy => ?_⟩, ⟨⟨x', ?_⟩, hst.1.at fun o q => (sb.2 it (Ne.symm hne)).trans q, hne⟩, fun b hb => ?_⟩
    · rw [I.tuple_inj hy hq]; exact hx
    · have e1 : ((i + 1 : Nat) : Int) = (i : Int) + 1 := by omega
      rw [e1]; exact he'
    · have hb' : b < s.heap.objs.size := by
        have e' : b = e ∨ b = it := by simpa using hb
        rcases e' with z | z
        · rw [z]; exact hel
        · rw [z]; exact hil
      rw [upd_ne (Nat.ne_of_lt hb')]
      exact (hf b hb).1
  done := by
    intro X hP hw hK hc i pins s σ H E I hf st hg
    subst hP hw hK
    obtain ⟨⟨old, he⟩, hit, hne⟩ := st
    obtain ⟨xs, hq, hx⟩ := hg
    obtain ⟨its, rv, p, hz⟩ := I.tuple hq
    obtain ⟨f0, f1, f2, f3, f4, f5⟩ := hf it (by simp)
    have hl := rv.length
    exact pyNext_enumT_end (I.ok.hd hc) he hit p (by simp; omega) fun h' eb => ⟨rfl, I.turned (t' := s.toks) (fun b o hb q => eb b o hb q) f0 f1 f3 f4 f5⟩
  self := fun A i s Q E st h => let ⟨⟨_, he⟩, _⟩ := st; wpAny_pyIter_enum he h
def iEnumT (K : PySem.W.Frag) (ta : TA) : TI := fun σ H R => ta σ H fun vs H1 => ∃ a xs, vs = [.ref a] ∧ SqT K H1 a xs ∧ R (IteT K a) H1
theorem pi_enumT {X : Cx} {e : Expr} {ta : TA} {p pos tpos : Pos} {elts : List Expr} {kk : Nat} (hg : Gl X "enumerate") (hm : X.mg "enumerate" = none) (ha : PA X [e] ta) (hs : starEach [e] X.env = [(false, eval e X.env)] := by rfl) :
    PI X (.Tuple elts kk tpos) (.Call (.Name "enumerate" p) [e] [] pos) (iEnumT X.K ta) := by
  refine ⟨fun pins s σ H R I h => ?_⟩
  refine Call_ (ld_blt I hg hm boot_enumerate (PyProof.Rows.callWith_type1 (thn (ha.run pos pins s σ H _ I h) fun us s1 ⟨vs, H1, I1, r1, q1⟩ => ?_) hs rfl))
  obtain ⟨a, xs, ex, hq, q⟩ := q1
  subst ex
  cases r1 with
  | cons r rr =>
    cases rr
    cases r
    obtain ⟨its, rv, p', hz⟩ := I1.tuple hq
    have hal : a < s1.heap.objs.size := by obtain ⟨_, q, _⟩ := p'; exact Heap.lt_size q
    refine call_enumerate_tup p' fun h' he hit hsz hk => wpAny_pyIter_enum he ?_
    have I2 : Inv X pins σ H1 { s1 with heap := h' } := I1.kept (t' := s1.toks) hk
    refine ⟨s1.heap.objs.size + 1, [s1.heap.objs.size + 1, s1.heap.objs.size], _, _, H1, rfl, I2, turn_enumT a (s1.heap.objs.size + 1) s1.heap.objs.size (Nat.ne_of_lt hal) (Nat.ne_of_gt (Nat.lt_succ_of_lt hal)), ⟨⟨.none, he⟩, hit, Nat.succ_ne_self _⟩, fun b hb => ?_, q⟩
    have e' : b = s1.heap.objs.size + 1 ∨ b = s1.heap.objs.size := by simpa using hb
    have hle : s1.heap.objs.size ≤ b := by
      rcases e' with z | z
      · rw [z]; exact Nat.le_add_right _ _
      · rw [z]; exact Nat.le_refl _
    exact I1.fpOk hle (I1.hok.fresh hle)
theorem for_enumT {K : PySem.W.Frag} {a : Addr} {xs : List V} {g : TG} {tb : TS} {D : Ends} {σ : St} {H : Hp} (Pv : Nat → St → Hp → Prop) (h0 : Pv 0 σ H) (hl : ∀ i σ H, i ≤ xs.length → Pv i σ H → SqT K H a xs)
    (hs : ∀ i x T σ H, xs[i]? = some x → Pv i σ H → H T = none → g (.ref T) σ (upd H T (.tup [.int (i : Nat), x])) fun σ2 H2 => tb { D with nx := Pv (i + 1), ct := Pv (i + 1), bk := D.nx } σ2 H2) (hd : ∀ σ H, Pv xs.length σ H → D.nx σ H) :
    ∃ W : Nat → Nat → St → Hp → Prop, (∃ m, W 0 m σ H) ∧ ∀ i m σ H, W i m σ H →
      ((IteT K a).stop i H ∧ D.nx σ H) ∨ ((IteT K a).go i H ∧ ∃ N : St → Hp → Prop, (∀ σ' H', N σ' H' → ∃ m', m' < m ∧ W (i + 1) m' σ' H') ∧ ∀ x H', (IteT K a).yld i H x H' → g x σ H' fun σ2 H2 => tb { D with nx := N, ct := N, bk := D.nx } σ2 H2) := by
  refine ⟨fun i m σ H => m = xs.length - i ∧ i ≤ xs.length ∧ Pv i σ H, ⟨xs.length, rfl, Nat.zero_le _, h0⟩, ?_⟩
  rintro i m σ H ⟨rfl, hi, pv⟩
  have hq := hl i σ H hi pv
  by_cases hlt : i < xs.length
  · refine .inr ⟨⟨xs, xs[i], hq, by simp [hlt]⟩, Pv (i + 1), fun σ' H' p' => ⟨xs.length - (i + 1), by omega, rfl, hlt, p'⟩, fun x H' y => ?_⟩
    obtain ⟨T, z, rfl, hT, rfl, hz⟩ := y
    exact hs i z T σ H (hz xs hq) pv hT
  · refine .inl ⟨⟨xs, hq, by omega⟩, hd σ H ?_⟩
    have e : i = xs.length := by omega
    rw [← e]
    exact pv
end L2
set_option Elab.async false
set_option linter.all false
set_option maxRecDepth 100000
set_option maxHeartbeats 4000000
/-! general: tuple * 0, tuple * 1 -/
namespace L2
open PySem PySem.Spec PyProof.Rows
theorem tuple_mul0 (l : Addr) (items : Array Value) (n : Nat) (dd : Option Addr) (sl : Array (Option Value)) (u : Tok) (c1 : items.isEmpty = false) :
    Meets (Builtin.«tuple.__mul__» ⟨[.ref l, .int 0 u], []⟩) (fun _ R s => s.heap.get? l = some { cls := .type "tuple", dict := dd, data := .seq items n, slots := sl } ∧
      R (.ok (.ret (Value.ref s.heap.objs.size))) { s with heap := s.heap.push { cls := Value.type "tuple", data := Data.seq #[] }, toks := s.toks }) :=
  .of_wp fun prog w A R s h => by
    obtain ⟨hp, g, d, tk, os⟩ := s
    obtain ⟨hl, h⟩ := h
    have f1 := AutoSeq1.idx_int
    have c2 : (items.isEmpty || (0 : Int) == 1) = false := by rw [c1]; rfl
    have c3 : (decide ((0 : Int) ≤ 0) || items.isEmpty) = true := by rfl
    wp_walk using wpAny_loadPart' hl
    repeat (first
      | (refine wpAny_ite_false (decide_eq_false (by rw [c2]; exact Bool.false_ne_true)) ?_; wp_walk using wpAny_loadPart' hl)
      | (refine wpAny_ite_true (decide_eq_true c3) ?_; wp_walk using wpAny_loadPart' hl)
      | (refine wpAny_ite_false (decide_eq_false (Nat.not_lt.mpr (Nat.zero_le _))) ?_; wp_walk using wpAny_loadPart' hl))
    exact ⟨_, rfl, h⟩
theorem tuple_mul1 (l : Addr) (items : Array Value) (n : Nat) (dd : Option Addr) (sl : Array (Option Value)) (u : Tok) :
    Meets (Builtin.«tuple.__mul__» ⟨[.ref l, .int 1 u], []⟩) (fun _ R s => s.heap.get? l = some { cls := .type "tuple", dict := dd, data := .seq items n, slots := sl } ∧
      R (.ok (.ret (Value.ref l))) s) :=
  .of_wp fun prog w A R s h => by
    obtain ⟨hp, g, d, tk, os⟩ := s
    obtain ⟨hl, h⟩ := h
    have f1 := AutoSeq1.idx_int
    have c2 : (items.isEmpty || (1 : Int) == 1) = true := by rw [Bool.or_eq_true]; exact .inr rfl
    wp_walk using wpAny_loadPart' hl
    repeat (first
      | (refine wpAny_ite_true (decide_eq_true c2) ?_; wp_walk using wpAny_loadPart' hl))
    exact ⟨_, rfl, h⟩
theorem sameU {H : Hp} {p : Addr} {o : HO} (h : H p = none) : Same H (upd H p o) := fun b ob e => by
  rw [upd_ne (fun z => by rw [z, h] at e; cases e)]
  exact e
/-- t * k, t not empty, any k from 0 -/
def rRepA (K : PySem.W.Frag) : R2 := fun x y H Q => ∃ l k xs, x = .ref l ∧ y = .int k ∧ SqT K H l xs ∧ xs ≠ [] ∧ 0 ≤ k ∧ (2 ≤ k → k ≤ 1000 ∧ xs.length ≤ 1000) ∧ ∀ p H', Same H H' → SqT K H' p (List.replicate k.toNat xs).flatten → Q (.ref p) H'
section
variable {X : Cx}
theorem op_repA : OpR X (binaryOp .Mult) (rRepA X.K) := by
  intro pins s σ H x y v u Q I rx ry h
  obtain ⟨l, k, xs, rfl, rfl, hT, hne, h1, h2, q⟩ := h
  by_cases c2 : 2 ≤ k
  · exact op_repT pins s σ H _ _ v u Q I rx ry ⟨l, k, xs, rfl, rfl, hT, hne, c2, (h2 c2).1, (h2 c2).2, fun p hp => q p _ (sameU hp) (SqT.of upd_same)⟩
  cases rx
  obtain ⟨t, rfl⟩ := ry
  obtain ⟨its, r, ⟨⟨cls, dd, data, sl⟩, ho, hc, n, hd⟩, hs⟩ := I.tuple hT
  simp only at hc hd
  subst hc hd
  have hle : its.length = xs.length := r.length.symm
  have hi : its.toArray.isEmpty = false := by
    cases its with
    | nil => exact absurd (List.eq_nil_of_length_eq_zero hle.symm) hne
    | cons a b => rfl
  by_cases c0 : k = 0
  · subst c0
    refine wpAny_binaryOp_repeat_ref (T := "tuple") (U := "int") (by decide) ⟨_, ho, rfl⟩ (fun s' => typeIs_int s' 0 t) noFill_tuple_mul F.fills_int_mul F.slot_int_rmul repeat_tuple F.slot_int_index.lookup
      (call_meets F.slot_int_rmul (typeIs_int s 0 t) F.entry_int_rmul (F.args_int_rmul_2 _ _) (int_rmul_tuple 0 t l its.toArray n dd sl)
        ⟨ho, rfl, ⟨_, ho, rfl⟩, call_meets F.slot_tuple_mul ⟨_, ho, rfl⟩ F.entry_tuple_mul (F.args_tuple_mul_2 _ _) (tuple_mul0 l its.toArray n dd sl t hi) ⟨ho, ?_⟩⟩)
    refine ⟨.ref s.heap.objs.size, _, I.laid (t' := s.toks) (o := .tup []) (fun b ob q => Heap.get?_push_of_some _ q) (Nat.le_refl _) ?_, rfl, q _ _ (sameU (I.hok.fresh (Nat.le_refl _))) (SqT.of upd_same)⟩
    exact ⟨Nat.zero_le _, [], .nil, IsTup.new _ _⟩
  · have c1 : k = 1 := by omega
    subst c1
    refine wpAny_binaryOp_repeat_ref (T := "tuple") (U := "int") (by decide) ⟨_, ho, rfl⟩ (fun s' => typeIs_int s' 1 t) noFill_tuple_mul F.fills_int_mul F.slot_int_rmul repeat_tuple F.slot_int_index.lookup
      (call_meets F.slot_int_rmul (typeIs_int s 1 t) F.entry_int_rmul (F.args_int_rmul_2 _ _) (int_rmul_tuple 1 t l its.toArray n dd sl)
        ⟨ho, rfl, ⟨_, ho, rfl⟩, call_meets F.slot_tuple_mul ⟨_, ho, rfl⟩ F.entry_tuple_mul (F.args_tuple_mul_2 _ _) (tuple_mul1 l its.toArray n dd sl t) ⟨ho, ?_⟩⟩)
    refine ⟨.ref l, H, I, rfl, q _ _ (fun _ _ e => e) ?_⟩
    rw [show (List.replicate (1 : Int).toNat xs).flatten = xs by simp]
    exact hT
end
end L2
set_option Elab.async false
set_option linter.all false
set_option maxRecDepth 100000
set_option maxHeartbeats 4000000
/-! general: comprehensions over range(a, b, c); t[::k] of mapped lists -/
namespace L2
open PySem PySem.Spec PyProof.Rows
theorem lc_rangeC {lo c : Int} {n : Nat} {g : TG} {tt : TT} {te : TE} {vs : List Nat} {σ : St} {H1 : Hp} {D : Addr} {Qd : Hp → Prop} (Pv : Nat → Hp → Prop) (h0 : Pv 0 (upd H1 D (.lst [])))
    (hs : ∀ i H, i < n → Pv i H → g (.int (lo + (i : Nat) * c)) (wipe σ vs) H fun σ2 H2 => wipe σ2 vs = wipe σ vs ∧ tt σ2 H2 fun b H3 =>
      if b = true then te σ2 H3 fun y H4 => ∃ acc, H4 D = some (.lst acc) ∧ acc.length < sizeLine ∧ Pv (i + 1) (upd H4 D (.lst (acc ++ [y]))) else Pv (i + 1) H3) (hd : ∀ H, Pv n H → Qd H) :
    ∃ W : Nat → Nat → Hp → Prop, (∃ m, W 0 m (upd H1 D (.lst []))) ∧ ∀ i m H, W i m H →
      ((Itc lo c n).stop i H ∧ Qd H) ∨ ((Itc lo c n).go i H ∧ ∃ Nx : Hp → Prop, (∀ H', Nx H' → ∃ m', m' < m ∧ W (i + 1) m' H') ∧ ∀ x H', (Itc lo c n).yld i H x H' → g x (wipe σ vs) H' fun σ2 H2 => wipe σ2 vs = wipe σ vs ∧ tt σ2 H2 fun b H3 =>
        if b = true then te σ2 H3 fun y H4 => ∃ acc, H4 D = some (.lst acc) ∧ acc.length < sizeLine ∧ Nx (upd H4 D (.lst (acc ++ [y]))) else Nx H3) := by
  refine ⟨fun i m H => m = n - i ∧ i ≤ n ∧ Pv i H, ⟨n, by simp, Nat.zero_le _, h0⟩, ?_⟩
  rintro i m H ⟨rfl, hi, p⟩
  by_cases hlt : i < n
  · refine .inr ⟨hlt, Pv (i + 1), fun H' p' => ⟨n - (i + 1), by omega, rfl, hlt, p'⟩, fun x H' y => ?_⟩
    obtain ⟨e, y⟩ := y
    subst e y
    exact hs i _ hlt p
  · have e : i = n := by omega
    subst e
    exact .inl ⟨Nat.le_refl _, hd H p⟩
theorem call_reprN {Y : Cx} (hg : Y.A.guards = some []) (hu : Y.A.units + 70 < cLine) : CallR Y.nox (.builtin "repr") (rRepr Y.K) := call_repr (X := Y.nox) hg hu
end L2
namespace HT
theorem stepN_lt {n k m : Nat} (hk : 1 ≤ k) (h : m < stepN n k) : m * k < n := by
  unfold stepN at h
  split at h
  · have h1 : m ≤ (n - 1) / k := by omega
    have h2 : m * k ≤ n - 1 := (Nat.le_div_iff_mul_le (by omega)).mp h1
    omega
  · omega
theorem stepL_map {α β : Type} (f : α → β) (xs : List α) (k : Nat) : stepL (xs.map f) k = (stepL xs k).map f := by
  unfold stepL
  rw [List.length_map, List.map_filterMap]
  congr 1
  funext m
  rw [List.getElem?_map]
theorem stepL_get (xs : List Int) (k : Nat) (hk : 1 ≤ k) : stepL xs k = (List.range (stepN xs.length k)).map fun m => xs.getD (m * k) 0 := by
  unfold stepL
  have key : ∀ l : List Nat, (∀ m ∈ l, m * k < xs.length) → (l.filterMap fun m => xs[m * k]?) = l.map fun m => xs.getD (m * k) 0 := by
    intro l
    induction l with
    | nil => intro _; rfl
    | cons m l ih =>
      intro h
      have e : xs[m * k]? = some (xs.getD (m * k) 0) := by
        rw [List.getD_eq_getElem?_getD, List.getElem?_eq_getElem (h m List.mem_cons_self)]
        rfl
      rw [List.filterMap_cons_some (f := fun m => xs[m * k]?) e, List.map_cons, ih fun z hz => h z (List.mem_cons_of_mem _ hz)]
  exact key _ fun m hm => stepN_lt hk (List.mem_range.mp hm)
end HT
namespace L2
open PySem
theorem rgc75 : ∀ n, n < 76 → RgC 0 ((n : Nat) : Int) ((1 + n / 12 : Nat) : Int) (HT.stepN n (1 + n / 12)) := by
  unfold RgC
  decide +kernel
end L2
set_option Elab.async false
set_option linter.all false
set_option maxRecDepth 100000
set_option maxHeartbeats 4000000
/-! general: the end of a law row, the law called where no repr is under way -/
namespace LamX
open PySem PySem.Spec PyProof.Rows L2
theorem law_callTsG {P : Program} {w : World} {K : PySem.W.Frag} {mg mb : Str → Option Value} {CX : CXT} {k : Nat} {fa a : Addr} {cs : List (Addr × Addr)} {fd : FuncData} {x : Str} {sp : Sp} {s₁ : Shared} {vs : List Value} {ns : List Int}
    (KX : K.In s₁.heap) (hns : s₁.heap.Ns mainGlobals mg) (hb : s₁.heap.Ns builtinsNs mb) (hbb : ∀ x : Str, x ≠ "__name__" → mb x = bootBuiltins x) (hlim : s₁.heap.NoLimit) (hg : s₁.gens = #[])
    (hT : ∀ p ∈ cs, s₁.heap.get? p.2 = some { cls := .none, data := .fields #[] }) (nT : ∀ p ∈ cs, K.lookup p.2 = none) (C : ∀ p ∈ cs, PySem.W.CodeHd s₁.heap p.1 p.2)
    (hbm : ∃ (bm : Addr) (ob : Obj), mg "__builtins__" = some (.ref bm) ∧ bm ≠ builtinsNs ∧ s₁.heap.get? bm = some ob ∧ ob.cls = .type "module" ∧ ob.dict = some builtinsNs ∧ ob.data = .plain)
    (ha : s₁.heap.get? a = some { cls := .type "list", data := .seq vs.toArray }) (hi : IntsAre vs ns) (hl : ns.length ≤ sizeLine) (hr : Room k callerA)
    (F : ∀ base : Heap, K.In base → base.Ns mainGlobals mg → (∀ p ∈ cs, TabB base mg p.1 p.2) → FnOkG P w K mg base CX k fa fd [x] sp) (hbind : ∀ (s : Shared) (u : Value), BindsTo s fd ⟨[u], []⟩ [(x, u)])
    (hsp : ∀ H : Hp, (∀ p ∈ cs, H p.2 = some (.tbl #[])) → SqL K H a (ns.map V.int) → sp [.ref a] H (fun v _ => v = .bl true) fun _ _ _ => False)
    (hCX : ∀ H e s', CX [] H s₁ (fun _ _ _ => False) e s' → False) :
    codeAny (model P w) callerA (.call (.ref fa) ⟨[.ref a], []⟩) (fun r s' => r = .ok (.ret (.bool true)) ∧ OldK s₁.heap s'.heap ∧ s'.os = s₁.os ∧ AllBare s'.gens) s₁ := by
  have rv := vals_ints hi
  have lenV := hi.length
  have isT : ∀ b : Addr, b ∈ cs.map (·.2) → s₁.heap.get? b = some { cls := .none, data := .fields #[] } := fun b hb => by
    obtain ⟨p, hp, e⟩ := List.mem_map.mp hb
    rw [← e]
    exact hT p hp
  have aT : a ∉ cs.map (·.2) := fun z => by
    have q := isT a z
    rw [ha] at q
    have z' : Data.seq vs.toArray _ = Data.fields #[] := congrArg Obj.data (Option.some.inj q)
    cases z'
  have memT : ∀ p ∈ cs, p.2 ∈ cs.map (·.2) := fun p hp => List.mem_map.mpr ⟨p, hp, rfl⟩
  -- from an abstract heap in which nothing but the script and the tables may be tracked
  have core : ∀ H : Hp, (∀ p ∈ cs, H p.2 = some (.tbl #[])) → (∀ b, H b = none ∨ b ∈ cs.map (·.2) ∨ ∃ o xs, H b = some (.frz o (.lst xs))) → SqL K H a (ns.map V.int) → HOk P w H s₁.heap → (∀ b, H b ≠ none → b = a ∨ b ∈ cs.map (·.2)) → (H a ≠ none → K.lookup a = none) →
      codeAny (model P w) callerA (.call (.ref fa) ⟨[.ref a], []⟩) (fun r s' => r = .ok (.ret (.bool true)) ∧ OldK s₁.heap s'.heap ∧ s'.os = s₁.os ∧ AllBare s'.gens) s₁ := by
    intro H hH hO hS hok hA hK
    have base_of : ∀ {b : Addr} {o : Obj}, s₁.heap.get? b = some o → H b = none → (hidT s₁.heap H).get? b = some o := fun e n => hidT_get e n
    have noD : ∀ {b : Addr} {o : Obj}, s₁.heap.get? b = some o → (∀ vs n, o.data ≠ .seq vs n) → o.data ≠ .fields #[] → H b = none := fun {b o} e h1 h2 => by
      cases q : H b with
      | none => rfl
      | some u =>
        rcases hA b (by rw [q]; simp) with e' | e'
        · rw [e', ha] at e
          cases e
          exact (h1 _ _ rfl).elim
        · rw [isT b e'] at e
          cases e
          exact (h2 rfl).elim
    have noA : ∀ {b : Addr} {o : Obj} {es : Array DictEntry} {ep : Nat}, s₁.heap.get? b = some o → o.data = .dict es ep → H b = none := fun {b o es ep} e d => by
      refine noD e (fun vs n z => ?_) fun z => ?_
      · rw [d] at z
        cases z
      · rw [d] at z
        cases z
    have nsK : ∀ {b : Addr} {m : Str → Option Value}, s₁.heap.Ns b m → (hidT s₁.heap H).Ns b m := fun {b m} ⟨o, es, ep, e, d, r⟩ => ⟨o, es, ep, base_of e (noA e d), d, r⟩
    have hKb : K.In (hidT s₁.heap H) := fun b o e => base_of (KX b o e) (by
      cases q : H b with
      | none => rfl
      | some u =>
        rcases hA b (by rw [q]; simp) with e' | e'
        · rw [e'] at e q
          rw [hK (by rw [q]; simp)] at e
          cases e
        · obtain ⟨p, hp, ep⟩ := List.mem_map.mp e'
          rw [← ep, nT p hp] at e
          cases e)
    have hM : L2.Mod K mg (hidT s₁.heap H) := ⟨hKb, nsK hns, ⟨mb, nsK hb, hbb⟩, let ⟨mc, h1, h2⟩ := hlim; ⟨mc, nsK h1, h2⟩⟩
    have TB : ∀ p ∈ cs, TabB (hidT s₁.heap H) mg p.1 p.2 := fun p hp => by
      have hTp := hT p hp
      refine ⟨?_, ?_, fun z => ?_⟩
      · obtain ⟨o, us, file, tf, flags, tg, inF, text, tt, e1, r1, r2, r3, r4, r5, r6, r7, r8, hne⟩ := C p hp
        refine ⟨o, us, file, tf, flags, tg, inF, text, tt, base_of e1 (noD e1 (fun vs n z => ?_) fun z => ?_), r1, r2, r3, r4, r5, r6, r7, r8, hne⟩
        · rw [r2] at z
          cases z
        · rw [r2] at z
          cases z
          simp at r3
      · obtain ⟨bm, ob, b1, b2, b3, b4, b5, b6⟩ := hbm
        have nG : bm ≠ mainGlobals := fun q => by
          obtain ⟨o, es, ep, e, hd, _⟩ := hns
          rw [q, e] at b3
          cases b3
          rw [hd] at b6
          cases b6
        have nP : bm ≠ p.2 := fun q => by
          rw [q, hTp] at b3
          cases b3
          cases b6
        refine ⟨bm, ob, b1, b2, nG, nP, base_of b3 (noD b3 (fun vs n z => ?_) fun z => ?_), b4, b5, b6⟩
        · rw [b6] at z
          cases z
        · rw [b6] at z
          cases z
      · obtain ⟨o, es, ep, e, hd, _⟩ := hns
        rw [z, hTp] at e
        cases e
        cases hd
    have e0 : Env0 P w K mg (hidT s₁.heap H) callerA [] s₁ H := ⟨rfl, hM, fun b o e => of_hidT e, Nat.le_of_eq (hidT_size _ _), trivial, fun b hb => absurd (show b ∈ ([] : List Addr) from hb) (by simp), hok, .of_eq hg⟩
    refine codeAny_mono ((F _ hKb (nsK hns) TB).run callerA [] s₁ H ⟨[.ref a], []⟩ [.ref a] [.ref a] _ _ rfl hr e0 (hbind s₁ (.ref a)) (.cons rfl .nil) (hsp H hH hS)) fun r s' h => ?_
    cases r with
    | error e => exact (hCX H e s' h).elim
    | ok fl =>
      cases fl with
      | next => exact False.elim h
      | brk => exact False.elim h
      | cont => exact False.elim h
      | ret u =>
        obtain ⟨v, H', os, bare, un, hok', r', q⟩ := h
        have q' : v = .bl true := q
        subst q'
        obtain rfl : u = Value.bool true := r'
        have key : ∀ b o, b ∉ cs.map (·.2) → s₁.heap.get? b = some o → s'.heap.get? b = some o := fun b o nb e => by
          cases q : H b with
          | none => exact un.keep b o e q (by intro z; exact absurd (show b ∈ ([] : List Addr) from z) (by simp)) (by simp)
          | some u =>
            rcases hO b with z | z | ⟨ob, xs, z⟩
            · rw [q] at z; cases z
            · exact absurd z nb
            · have z2 := un.frzs b ob _ z
              obtain ⟨e1, _⟩ := hok b _ z
              obtain ⟨e2, _⟩ := hok' b _ z2
              rw [e] at e1; cases e1
              exact e2
        have grown : ∀ p ∈ cs, ∃ more : Array Value, s'.heap.get? p.2 = some { cls := .none, data := .fields more } := fun p hp => by
          obtain ⟨more, z⟩ := un.tbls p.2 #[] (hH p hp)
          exact ⟨_, hok' p.2 _ z⟩
        refine ⟨rfl, ⟨fun b o e => ?_, fun b o e => ?_⟩, os, bare⟩
        · by_cases hb : b ∈ cs.map (·.2)
          · obtain ⟨p, hp, ep⟩ := List.mem_map.mp hb
            obtain ⟨more, hm⟩ := grown p hp
            rw [← ep] at e ⊢
            rw [hT p hp] at e
            cases e
            exact .inr (.inl ⟨((C p hp).tab (hT p hp)).isCodeTable, rfl, #[], more, rfl, by rw [Array.empty_append]; exact hm⟩)
          · exact .inl (key b o hb e)
        · by_cases hb : b ∈ cs.map (·.2)
          · obtain ⟨p, hp, ep⟩ := List.mem_map.mp hb
            obtain ⟨more, hm⟩ := grown p hp
            rw [← ep]
            exact ⟨_, hm⟩
          · exact ⟨o, key b o hb e⟩
  cases hk : K.lookup a with
  | some o =>
    have e := KX a o hk
    rw [ha] at e
    cases e
    refine core (fun b => if b ∈ cs.map (·.2) then some (.tbl #[]) else none) (fun p hp => if_pos (memT p hp)) (fun b => ?_) (.inr ⟨_, vs.toArray, _, hk, rfl, rfl, rfl, by rw [List.size_toArray, lenV]; exact hl, by simpa using rv⟩) (fun b u z => ?_) (fun b z => ?_) fun z => absurd (show (if a ∈ cs.map (·.2) then some (HO.tbl #[]) else none) = none from if_neg aT) z
    · by_cases hb : b ∈ cs.map (·.2)
      · exact .inr (.inl hb)
      · exact .inl (if_neg hb)
    · by_cases hb : b ∈ cs.map (·.2)
      · have z' := (if_pos hb).symm.trans z
        cases z'
        exact isT b hb
      · have z' := (if_neg hb).symm.trans z
        cases z'
    · by_cases hb : b ∈ cs.map (·.2)
      · exact .inr hb
      · exact absurd (if_neg hb) z
  | none =>
    refine core (fun b => if b = a then some (.frz { cls := .type "list", data := .seq vs.toArray } (.lst (ns.map V.int))) else if b ∈ cs.map (·.2) then some (.tbl #[]) else none) (fun p hp => (if_neg (show ¬ p.2 = a from fun z => aT (by rw [← z]; exact memT p hp))).trans (if_pos (memT p hp))) (fun b => ?_)
      (.inl (.inr ⟨{ cls := .type "list", data := .seq vs.toArray }, if_pos rfl⟩)) (fun b u z => ?_) (fun b z => ?_) fun _ => hk
    · by_cases hb : b = a
      · exact .inr (.inr ⟨_, _, if_pos hb⟩)
      · by_cases hb2 : b ∈ cs.map (·.2)
        · exact .inr (.inl hb2)
        · exact .inl ((if_neg hb).trans (if_neg hb2))
    · by_cases hb : b = a
      · have z' := (if_pos hb).symm.trans z
        cases z'
        rw [hb]
        exact ⟨ha, by rw [List.length_map]; exact hl, vs, _, rv, ha⟩
      · have z1 := (if_neg hb).symm.trans z
        by_cases hb2 : b ∈ cs.map (·.2)
        · have z' := (if_pos hb2).symm.trans z1
          cases z'
          exact isT b hb2
        · have z' := (if_neg hb2).symm.trans z1
          cases z'
    · by_cases hb : b = a
      · exact .inl hb
      · by_cases hb2 : b ∈ cs.map (·.2)
        · exact .inr hb2
        · exact absurd ((if_neg hb).trans (if_neg hb2)) z

def LawAtG (l : PySem.W.OpenLaw) (w : World) (K : PySem.W.Frag) (CX : CXT) (k n : Nat) (x : Str) (mg : Str → Option Value) (fa : Addr) (h : Heap) : Prop :=
  ∃ (fd : FuncData) (cs : List (Addr × Addr)) (sp : Sp), (∀ p ∈ cs, h.get? p.2 = some { cls := .none, data := .fields #[] }) ∧ (∀ p ∈ cs, K.lookup p.2 = none) ∧ (∀ p ∈ cs, PySem.W.CodeHd h p.1 p.2) ∧ (∀ (s : Shared) (u : Value), BindsTo s fd ⟨[u], []⟩ [(x, u)]) ∧
    (∀ (H : Hp) (a : Addr) (ns : List Int), ns.length ≤ n → (∀ p ∈ cs, H p.2 = some (.tbl #[])) → SqL K H a (ns.map V.int) → sp [.ref a] H (fun v _ => v = .bl true) fun _ _ _ => False) ∧
    ∀ base : Heap, K.In base → base.Ns mainGlobals mg → (∀ p ∈ cs, TabB base mg p.1 p.2) → FnOkG l.prog w K mg base CX k fa fd [x] sp
theorem walk_ofTsG {l : PySem.W.OpenLaw} {n k : Nat} {q : Program} {loose : List Str} {XP : (Str → Option Value) → Heap → Prop} {YP : World → Heap → Prop} {d : DefRec} {CX : World → CXT} {x : Str}
    (hn : l.most = some n) (hn2 : n ≤ sizeLine) (hdf : d.params.defaults = []) (hr : Room k callerA)
    (F : ∀ (w : World) (mg : Str → Option Value) (fa : Addr) (h : Heap), YP w h → h.Ns mainGlobals mg → mg d.name = some (.ref fa) → ∃ K : PySem.W.Frag, K.In h ∧ LawAtG l w K (CX w) k n x mg fa h)
    (hCX : ∀ (w : World) (H : Hp) (s : Shared) (e : Value) (s' : Shared), CX w [] H s (fun _ _ _ => False) e s' → False) :
    PySem.W.WalkO q loose XP YP l.row.toRowW d [] (fun f vs => PySem.call f vs) := by
  refine Att.attach_callB hn hdf fun w s₀ s₁ mg mb fa o pm cd doc a vs ns G Y ho hd hcd hmg hobj hints hlen hbits hg => ?_
  obtain ⟨K, KX, fd, cs, sp, hT, nT, C, hb, hsp, hF⟩ := F w mg fa _ Y G.T.g hmg
  exact law_callTsG KX G.T.g G.T.b G.T.builtins G.T.nolimit hg hT nT C G.T.bmain hobj hints (Nat.le_trans hlen hn2) hr hF hb (fun H hH hS => hsp H a ns hlen hH hS) fun H e s' => hCX w H s₁ e s'
end LamX
set_option Elab.async false
set_option linter.all false
set_option maxRecDepth 100000
set_option maxHeartbeats 4000000
namespace R4
open PySem L2 PySem.GW
open RM (Rn)
section
variable {w : World} {K : PySem.W.Frag} {mg : Str → Option Value} {base : Heap}

/-! ### values of any kind -/
def tyD : PyData → String
  | .none => "NoneType"
  | .bool _ => "bool"
  | .int _ => "int"
  | .str _ => "str"
  | .list _ => "list"
  | .tuple _ => "tuple"
  | .dict _ => "dict"
def seqD : PyData → Option (List PyData)
  | .list ds => some ds
  | .tuple ds => some ds
  | _ => none
def isIntD : PyData → Bool
  | .int _ => true
  | _ => false
def wholeD (d : PyData) (l : Int) : Bool := match d with
  | .int i => decide (l ≤ i)
  | _ => false
def rowD (d : PyData) : Bool := match seqD d with
  | some ds => ds.all isIntD
  | none => false
def numD : PyData → Bool
  | .int i => if decide ((0 : Int) ≤ i) = true then decide (i < 4) else false
  | _ => false
def wordD (d : PyData) : Bool := match seqD d with
  | some ds => ds.all isIntD && (decide (1 ≤ ds.length) && (decide (ds.length ≤ 40) && ds.all numD))
  | none => false
def timesD : PyData → Bool
  | .int i => decide (i ≤ 10 ^ 300)
  | _ => false
def stretchD (d : PyData) : Bool := match seqD d with
  | some [w, t] => wordD w && (wholeD t 0 && timesD t)
  | _ => false
theorem dp_ty {H : Hp} {v : V} {d : PyData} (h : Dp K H v d) : TyX K H v (.type (tyD d)) := by
  cases h with
  | non => exact .base .non
  | bl b => exact .base (.bl b)
  | int i => exact .base (.int i)
  | str x => exact .base (.str x)
  | lst h _ => exact ty_lst h
  | tup h _ => exact ty_tup h
mutual
theorem Dp.same {H H' : Hp} (e : Same H H') : ∀ {d : PyData} {v : V}, Dp K H v d → Dp K H' v d
  | _, _, .non => .non
  | _, _, .bl b => .bl b
  | _, _, .int i => .int i
  | _, _, .str x => .str x
  | _, _, .lst h hs => .lst (e.seq h) (DpAll.same e hs)
  | _, _, .tup h hs => .tup (Same.seqT e h) (DpAll.same e hs)
theorem DpAll.same {H H' : Hp} (e : Same H H') : ∀ {ds : List PyData} {vs : List V}, DpAll K H vs ds → DpAll K H' vs ds
  | _, _, .nil => .nil
  | _, _, .cons h hs => .cons (Dp.same e h) (DpAll.same e hs)
end
theorem DpAll.length {H : Hp} : ∀ {ds : List PyData} {vs : List V}, DpAll K H vs ds → vs.length = ds.length
  | _, _, .nil => rfl
  | _, _, .cons _ hs => by rw [List.length_cons, List.length_cons, DpAll.length hs]
theorem DpAll.at {H : Hp} : ∀ {ds : List PyData} {vs : List V} {i : Nat} {v : V}, DpAll K H vs ds → vs[i]? = some v → ∃ d, ds[i]? = some d ∧ Dp K H v d
  | _, _, _, _, .nil, h => by simp at h
  | _, _, 0, _, .cons h _, e => by
    cases Option.some.inj e
    exact ⟨_, rfl, h⟩
  | _, _, i + 1, _, .cons _ hs, e => DpAll.at (i := i) hs e
theorem dp_seq {H : Hp} {v : V} {d : PyData} {ds : List PyData} (h : Dp K H v d) (e : seqD d = some ds) : ∃ a xs, v = .ref a ∧ Sq K H a xs ∧ DpAll K H xs ds := by
  cases h with
  | lst h hs => cases Option.some.inj e; exact ⟨_, _, rfl, .inl h, hs⟩
  | tup h hs => cases Option.some.inj e; exact ⟨_, _, rfl, .inr h, hs⟩
  | _ => cases e
/-- what is asked of a value of any kind -/
def kList (d : PyData) : Bool := (seqD d).isSome
theorem sp_int {H : Hp} {v : V} {d : PyData} {Q : VK} {E : XK} (h : Dp K H v d) (q : Q (.bl (isIntD d)) H) : spInt K [v] H Q E := by
  have ty := dp_ty h
  cases d with
  | none => exact ⟨v, "NoneType", false, false, rfl, ty, by decide +kernel, by decide +kernel, q⟩
  | bool b => exact ⟨v, "bool", true, true, rfl, ty, by decide +kernel, by decide +kernel, q⟩
  | int i => exact ⟨v, "int", true, false, rfl, ty, by decide +kernel, by decide +kernel, q⟩
  | str x => exact ⟨v, "str", false, false, rfl, ty, by decide +kernel, by decide +kernel, q⟩
  | list x => exact ⟨v, "list", false, false, rfl, ty, by decide +kernel, by decide +kernel, q⟩
  | tuple x => exact ⟨v, "tuple", false, false, rfl, ty, by decide +kernel, by decide +kernel, q⟩
  | dict x => exact ⟨v, "dict", false, false, rfl, ty, by decide +kernel, by decide +kernel, q⟩
theorem kitLT {n : String} {b1 b2 : Bool} (h1 : kitB n "list" = some b1) (h2 : kitB n "tuple" = some b2) : PySem.W.kitAny K (.type n) [.type "list", .type "tuple"] = some (b1 || b2) := by
  refine kitAny_cons (kit_ty h1) (fun e => kitAny_cons (kit_ty h2) (fun e2 => ?_) fun e2 => ?_) fun e => ?_
  · rw [e, e2]; rfl
  · rw [e, e2]; rfl
  · rw [e]; rfl
theorem sp_list {H : Hp} {v : V} {d : PyData} {Q : VK} {E : XK} (h : Dp K H v d) (q : ∀ H', Same H H' → Q (.bl (kList d)) H') : spIsList K [v] H Q E := by
  have ty := dp_ty h
  cases d with
  | none => exact ⟨v, "NoneType", false, rfl, ty, kitLT (b1 := false) (b2 := false) (by decide +kernel) (by decide +kernel), q⟩
  | bool b => exact ⟨v, "bool", false, rfl, ty, kitLT (b1 := false) (b2 := false) (by decide +kernel) (by decide +kernel), q⟩
  | int i => exact ⟨v, "int", false, rfl, ty, kitLT (b1 := false) (b2 := false) (by decide +kernel) (by decide +kernel), q⟩
  | str x => exact ⟨v, "str", false, rfl, ty, kitLT (b1 := false) (b2 := false) (by decide +kernel) (by decide +kernel), q⟩
  | list x => exact ⟨v, "list", true, rfl, ty, kitLT (b1 := true) (b2 := false) (by decide +kernel) (by decide +kernel), q⟩
  | tuple x => exact ⟨v, "tuple", true, rfl, ty, kitLT (b1 := false) (b2 := true) (by decide +kernel) (by decide +kernel), q⟩
  | dict x => exact ⟨v, "dict", false, rfl, ty, kitLT (b1 := false) (b2 := false) (by decide +kernel) (by decide +kernel), q⟩
def Sm (d : PyData) : Prop := ∀ ds, seqD d = some ds → ds.length ≤ 100000
def spWholeD (K : PySem.W.Frag) : Sp := fun vs H Q _ => ∃ (v : V) (d : PyData) (l : Int), vs = [v, .int l] ∧ Dp K H v d ∧ Q (.bl (wholeD d l)) H
def spRowD (K : PySem.W.Frag) : Sp := fun vs H Q _ => ∃ (v : V) (d : PyData), vs = [v] ∧ Dp K H v d ∧ Sm d ∧ ∀ H', Same H H' → Q (.bl (rowD d)) H'
def spWordD (K : PySem.W.Frag) : Sp := fun vs H Q _ => ∃ (v : V) (d : PyData), vs = [v] ∧ Dp K H v d ∧ Sm d ∧ ∀ H', Same H H' → Q (.bl (wordD d)) H'

theorem okD_is_whole (T : Top K mg) : FnOk PW w K mg base CX0 2 (fa K "is_whole") (fdOf K (fa K "is_whole")) ["value", "least"] (spWholeD K) := by
  refine T.F_is_whole.ok sc_is_whole (fun vs H Q E h => ?_) (fun cdv A outer s H vs Q E hr h => ?_)
  · obtain ⟨v, d, l, rfl, _hd, _k⟩ := h
    rfl
  · obtain ⟨v, d, l, rfl, hd, k⟩ := h
    have hu := hu_of hr
    refine ⟨_, (pss_one (ps_ret (pe_and (pe_call (ok_is_integer T) (hr.mono (by decide)) rfl T.g_is_integer T.F_is_integer.kp T.b_is_integer .nil pass0 (pa_cons (pv 0) pa_nil)) (pe_one (pe_cmpR op_ge (pv 0) (pv 1) (nomark _)))))), ?_⟩
    refine ⟨_, rfl, nilI (sp_int hd ⟨_, rfl, ?_⟩)⟩
    cases hd with
    | int i => exact iteT ⟨_, rfl, _, rfl, _, _, rfl, rfl, k⟩
    | _ => exact iteF k
theorem okD_is_row (T : Top K mg) : FnOk PW w K mg base CX0 3 (fa K "is_row") (fdOf K (fa K "is_row")) ["value"] (spRowD K) := by
  refine T.F_is_row.ok sc_is_row (fun vs H Q E h => ?_) (fun cdv A outer s H vs Q E hr h => ?_)
  · obtain ⟨v, d, rfl, _hd, _hs, _k⟩ := h
    rfl
  · obtain ⟨v, d, rfl, hd, hs, k⟩ := h
    have hu := hu_of hr
    refine ⟨_, (pss_one (ps_ret (pe_and (pe_call (ok_is_list T) (hr.mono (by decide)) rfl T.g_is_list T.F_is_list.kp T.b_is_list .nil pass0 (pa_cons (pv 0) pa_nil)) (pe_one (pe_callB (cr_all rfl) (by rfl) T.z_all (by decide +kernel) (pa_cons (pe_lc (own := [("entry", 1)]) (g := gName 1) (by rfl) sc_is_row.nd (pi_or (pi_list (pv 0)) (pi_tup (pv 0))) (blkOk_by (own := [("entry", 1)]) (N := ["value", "entry"]) (sc := (defScope s_is_row)) (by decide +kernel)) (fun _ _ _ _ _ => (pg_name (i := 1) sc_is_row.nd rfl (Or.inl rfl))) (fun _ _ _ _ _ => pts_nil) (fun _ _ _ _ _ => (pe_call (ok_is_integer T) (hr.mono (by decide)) rfl T.g_is_integer T.F_is_integer.kp T.b_is_integer .nil pass0 (pa_cons (pv 1) pa_nil)))) pa_nil)))))), ?_⟩
    refine ⟨_, rfl, nilI (sp_list hd fun H1 sm => ⟨_, rfl, ?_⟩)⟩
    cases e : seqD d with
    | none =>
      have e1 : kList d = false := by unfold kList; rw [e]; rfl
      have e2 : rowD d = false := by unfold rowD; rw [e]
      rw [e1]
      rw [e2] at k
      exact iteF (k _ sm)
    | some ds =>
      have e1 : kList d = true := by unfold kList; rw [e]; rfl
      have e2 : rowD d = ds.all isIntD := by unfold rowD; rw [e]
      rw [e1]
      rw [e2] at k
      have hl := hs ds e
      obtain ⟨a, xs, rfl, hS, hA⟩ := dp_seq (Dp.same sm hd) e
      have hle := DpAll.length hA
      refine iteT ?_
      rcases hS with hS | hS
      · refine .inl ⟨_, rfl, a, rfl, ⟨_, hS⟩, fun D hD => ?_⟩
        refine lc_list (K := K) (a := a) (xs := xs) (fun i H2 => Same H1 H2 ∧ H2 D = some (.lst (((ds.take i).map isIntD).map V.bl))) ⟨same_upd hD, upd_same⟩ (fun i H2 _ ⟨s2, _⟩ => s2.seq hS) ?_ ?_
        · rintro j x H2 hj ⟨s2, hD2⟩
          obtain ⟨dj, hdj, hx⟩ := DpAll.at hA hj
          have hjl : j < ds.length := (List.getElem?_eq_some_iff.mp hdj).1
          refine ⟨rfl, ?_⟩
          refine ⟨_, rfl, nilI (sp_int (Dp.same s2 hx) ⟨_, hD2, (by rw [List.length_map, List.length_map, List.length_take, sizeLine_eq]; omega), same_at hD s2, ?_⟩)⟩
          rw [upd_same, take_at hdj, List.map_append, List.map_append]
          rfl
        · rintro H2 ⟨s2, hD2⟩
          refine ⟨D, _, rfl, SqL.of hD2, ?_⟩
          rw [hle, List.take_length, List.all_map]
          exact k _ (sm.trans s2)
      · refine .inr ⟨_, rfl, a, rfl, ⟨_, hS⟩, fun D hD => ?_⟩
        refine lc_tup (K := K) (a := a) (xs := xs) (fun i H2 => Same H1 H2 ∧ H2 D = some (.lst (((ds.take i).map isIntD).map V.bl))) ⟨same_upd hD, upd_same⟩ (fun i H2 _ ⟨s2, _⟩ => Same.seqT s2 hS) ?_ ?_
        · rintro j x H2 hj ⟨s2, hD2⟩
          obtain ⟨dj, hdj, hx⟩ := DpAll.at hA hj
          have hjl : j < ds.length := (List.getElem?_eq_some_iff.mp hdj).1
          refine ⟨rfl, ?_⟩
          refine ⟨_, rfl, nilI (sp_int (Dp.same s2 hx) ⟨_, hD2, (by rw [List.length_map, List.length_map, List.length_take, sizeLine_eq]; omega), same_at hD s2, ?_⟩)⟩
          rw [upd_same, take_at hdj, List.map_append, List.map_append]
          rfl
        · rintro H2 ⟨s2, hD2⟩
          refine ⟨D, _, rfl, SqL.of hD2, ?_⟩
          rw [hle, List.take_length, List.all_map]
          exact k _ (sm.trans s2)
theorem okD_is_bud_word (T : Top K mg) : FnOk PW w K mg base CX0 4 (fa K "is_bud_word") (fdOf K (fa K "is_bud_word")) ["value"] (spWordD K) := by
  refine T.F_is_bud_word.ok sc_is_bud_word (fun vs H Q E h => ?_) (fun cdv A outer s H vs Q E hr h => ?_)
  · obtain ⟨v, d, rfl, _hd, _hs, _k⟩ := h
    rfl
  · obtain ⟨v, d, rfl, hd, hs, k⟩ := h
    have hu := hu_of hr
    obtain ⟨t_MOST_WORD, c_MOST_WORD⟩ := T.c_MOST_WORD
    obtain ⟨t_MOST_BUDS, c_MOST_BUDS⟩ := T.c_MOST_BUDS
    refine ⟨_, (pss_cons (ps_if (PW.pt (pw_or (pt_not (pt_val (pe_call (okD_is_row T) (hr.mono (by decide)) rfl T.g_is_row T.F_is_row.kp T.b_is_row .nil pass0 (pa_cons (pv 0) pa_nil)))) (pw_or1 (pt_not (pt_chain op_le op_le pe_int (pe_callB call_len_seq (by rfl) T.z_len (by decide +kernel) (pa_cons (pv 0) pa_nil)) (pe_glob (v := .int 40) rfl c_MOST_WORD ⟨_, rfl⟩)))))) (pss_one (ps_ret pe_bl)) pss_nil)
      (pss_one (ps_ret (pe_callB (cr_all rfl) (by rfl) T.z_all (by decide +kernel) (pa_cons (pe_lc (own := [("number", 1)]) (g := gName 1) (by rfl) sc_is_bud_word.nd (pi_or (pi_list (pv 0)) (pi_tup (pv 0))) (blkOk_by (own := [("number", 1)]) (N := ["value", "number"]) (sc := (defScope s_is_bud_word)) (by decide +kernel)) (fun _ _ _ _ _ => (pg_name (i := 1) sc_is_bud_word.nd rfl (Or.inl rfl))) (fun _ _ _ _ _ => pts_nil) (fun _ _ _ _ _ => (pe_chain op_le op_lt pe_int (pv 1) (pe_glob (v := .int 4) rfl c_MOST_BUDS ⟨_, rfl⟩)))) pa_nil))))), ?_⟩
    refine ⟨_, rfl, v, d, rfl, hd, hs, fun H1 sm => ⟨_, rfl, ?_⟩⟩
    cases e : seqD d with
    | none =>
      have e1 : rowD d = false := by unfold rowD; rw [e]
      have e2 : wordD d = false := by unfold wordD; rw [e]
      rw [e1]
      rw [e2] at k
      exact iteT (k _ sm)
    | some ds =>
      have e1 : rowD d = ds.all isIntD := by unfold rowD; rw [e]
      have e2 : wordD d = (ds.all isIntD && (decide (1 ≤ ds.length) && (decide (ds.length ≤ 40) && ds.all numD))) := by unfold wordD; rw [e]
      rw [e1]
      rw [e2] at k
      cases hI : ds.all isIntD with
      | false =>
        rw [hI] at k
        exact iteT (k _ sm)
      | true =>
        rw [hI] at k
        have hl := hs ds e
        obtain ⟨a, xs, rfl, hS, hA⟩ := dp_seq (Dp.same sm hd) e
        have hle := DpAll.length hA
        refine iteF ⟨_, rfl, a, _, rfl, hS, _, _, rfl, rfl, _, rfl, ?_⟩
        by_cases c1 : 1 ≤ ds.length
        · refine ifT (decide_eq_true (by omega)) ⟨_, _, rfl, rfl, _, rfl, ?_⟩
          rw [decide_eq_true c1] at k
          by_cases c2 : ds.length ≤ 40
          · refine ifF (nd (by omega)) ?_
            rw [decide_eq_true c2] at k
            rcases hS with hS | hS
            · refine .inl ⟨_, rfl, a, rfl, ⟨_, hS⟩, fun D hD => ?_⟩
              refine lc_list (K := K) (a := a) (xs := xs) (fun i H2 => Same H1 H2 ∧ H2 D = some (.lst (((ds.take i).map numD).map V.bl))) ⟨same_upd hD, upd_same⟩ (fun i H2 _ ⟨s2, _⟩ => s2.seq hS) ?_ ?_
              · rintro j x H2 hj ⟨s2, hD2⟩
                obtain ⟨dj, hdj, hx⟩ := DpAll.at hA hj
                have hjl : j < ds.length := (List.getElem?_eq_some_iff.mp hdj).1
                have hij := List.all_eq_true.mp hI dj (List.mem_of_getElem? hdj)
                refine ⟨rfl, ?_⟩
                have fin : ∀ b : Bool, b = numD dj → ∃ acc, H2 D = some (.lst acc) ∧ acc.length < sizeLine ∧ Same H1 (upd H2 D (.lst (acc ++ [.bl b]))) ∧ (upd H2 D (.lst (acc ++ [.bl b]))) D = some (.lst (((ds.take (j + 1)).map numD).map V.bl)) := fun b hb => by
                  refine ⟨_, hD2, (by rw [List.length_map, List.length_map, List.length_take, sizeLine_eq]; omega), same_at hD s2, ?_⟩
                  rw [upd_same, take_at hdj, List.map_append, List.map_append, hb]
                  rfl
                cases hx with
                | int z =>
                  refine ⟨_, rfl, _, _, rfl, rfl, _, rfl, ?_⟩
                  by_cases c0 : (0 : Int) ≤ z
                  · exact ifT (decide_eq_true c0) ⟨_, _, rfl, rfl, fin _ (by show _ = (if decide ((0 : Int) ≤ z) = true then decide (z < 4) else false); rw [if_pos (decide_eq_true c0)])⟩
                  · exact ifF (decide_eq_false c0) (fin _ (by show _ = (if decide ((0 : Int) ≤ z) = true then decide (z < 4) else false); rw [decide_eq_false c0]; rfl))
                | _ => cases hij
              · rintro H2 ⟨s2, hD2⟩
                refine ⟨D, _, rfl, SqL.of hD2, ?_⟩
                rw [hle, List.take_length, List.all_map]
                exact k _ (sm.trans s2)
            · refine .inr ⟨_, rfl, a, rfl, ⟨_, hS⟩, fun D hD => ?_⟩
              refine lc_tup (K := K) (a := a) (xs := xs) (fun i H2 => Same H1 H2 ∧ H2 D = some (.lst (((ds.take i).map numD).map V.bl))) ⟨same_upd hD, upd_same⟩ (fun i H2 _ ⟨s2, _⟩ => Same.seqT s2 hS) ?_ ?_
              · rintro j x H2 hj ⟨s2, hD2⟩
                obtain ⟨dj, hdj, hx⟩ := DpAll.at hA hj
                have hjl : j < ds.length := (List.getElem?_eq_some_iff.mp hdj).1
                have hij := List.all_eq_true.mp hI dj (List.mem_of_getElem? hdj)
                refine ⟨rfl, ?_⟩
                have fin : ∀ b : Bool, b = numD dj → ∃ acc, H2 D = some (.lst acc) ∧ acc.length < sizeLine ∧ Same H1 (upd H2 D (.lst (acc ++ [.bl b]))) ∧ (upd H2 D (.lst (acc ++ [.bl b]))) D = some (.lst (((ds.take (j + 1)).map numD).map V.bl)) := fun b hb => by
                  refine ⟨_, hD2, (by rw [List.length_map, List.length_map, List.length_take, sizeLine_eq]; omega), same_at hD s2, ?_⟩
                  rw [upd_same, take_at hdj, List.map_append, List.map_append, hb]
                  rfl
                cases hx with
                | int z =>
                  refine ⟨_, rfl, _, _, rfl, rfl, _, rfl, ?_⟩
                  by_cases c0 : (0 : Int) ≤ z
                  · exact ifT (decide_eq_true c0) ⟨_, _, rfl, rfl, fin _ (by show _ = (if decide ((0 : Int) ≤ z) = true then decide (z < 4) else false); rw [if_pos (decide_eq_true c0)])⟩
                  · exact ifF (decide_eq_false c0) (fin _ (by show _ = (if decide ((0 : Int) ≤ z) = true then decide (z < 4) else false); rw [decide_eq_false c0]; rfl))
                | _ => cases hij
              · rintro H2 ⟨s2, hD2⟩
                refine ⟨D, _, rfl, SqL.of hD2, ?_⟩
                rw [hle, List.take_length, List.all_map]
                exact k _ (sm.trans s2)
          · refine ifT (nn (by omega)) ?_
            rw [decide_eq_false c2] at k
            exact k _ sm
        · refine ifF (decide_eq_false (by omega)) ⟨_, rfl, iteT ?_⟩
          rw [decide_eq_false c1] at k
          exact k _ sm
end
end R4
set_option Elab.async false
set_option linter.all false
set_option maxRecDepth 100000
set_option maxHeartbeats 4000000
namespace R4
open PySem L2 PySem.GW
open RM (Rn)
section
variable {w : World} {K : PySem.W.Frag} {mg : Str → Option Value} {base : Heap}

def Sm2 (d : PyData) : Prop := Sm d ∧ ∀ ds, seqD d = some ds → ∀ x ∈ ds, Sm x
def spStretchD (K : PySem.W.Frag) : Sp := fun vs H Q _ => ∃ (v : V) (d : PyData), vs = [v] ∧ Dp K H v d ∧ Sm2 d ∧ ∀ H', Same H H' → Q (.bl (stretchD d)) H'
theorem ix_sq {H : Hp} {a : Addr} {xs : List V} {i : Nat} {v : V} {Q : VK} (h : Sq K H a xs) (e : xs[i]? = some v) (q : Q v H) : rIx K (.ref a) (.int (i : Int)) H Q := by
  rcases h with h | h
  · exact .inl ⟨a, xs, _, v, rfl, rfl, h, atI_nat e, q⟩
  · exact .inr (.inl ⟨a, xs, _, v, rfl, rfl, h, atI_nat e, q⟩)
theorem DpAll.two {H : Hp} {xs : List V} {ds : List PyData} (h : DpAll K H xs ds) (e : ds.length = 2) : ∃ vw vt dw dt, xs = [vw, vt] ∧ ds = [dw, dt] ∧ Dp K H vw dw ∧ Dp K H vt dt := by
  match ds, xs, h, e with
  | [_, _], [_, _], .cons hw (.cons ht .nil), _ => exact ⟨_, _, _, _, rfl, rfl, hw, ht⟩
theorem stretch_len {d : PyData} {ds : List PyData} (e : seqD d = some ds) (h : ds.length ≠ 2) : stretchD d = false := by
  unfold stretchD
  rw [e]
  match ds, h with
  | [], _ => rfl
  | [_], _ => rfl
  | [_, _], h => exact absurd rfl h
  | _ :: _ :: _ :: _, _ => rfl

theorem okD_is_stretch (T : Top K mg) : FnOk PW w K mg base CX0 5 (fa K "is_stretch") (fdOf K (fa K "is_stretch")) ["value"] (spStretchD K) := by
  refine T.F_is_stretch.ok sc_is_stretch (fun vs H Q E h => ?_) (fun cdv A outer s H vs Q E hr h => ?_)
  · obtain ⟨v, d, rfl, _hd, _hs, _k⟩ := h
    rfl
  · obtain ⟨v, d, rfl, hd, hs, k⟩ := h
    have hu := hu_of hr
    obtain ⟨t_MOST_TIMES, c_MOST_TIMES⟩ := T.c_MOST_TIMES
    refine ⟨_, (pss_cons (ps_if (PW.pt (pw_or (pt_not (pt_val (pe_call (ok_is_list T) (hr.mono (by decide)) rfl T.g_is_list T.F_is_list.kp T.b_is_list .nil pass0 (pa_cons (pv 0) pa_nil)))) (pw_or (pt_cmpR op_ne (pe_callB call_len_seq (by rfl) T.z_len (by decide +kernel) (pa_cons (pv 0) pa_nil)) pe_int (nomark _)) (pw_or1 (pt_not (pt_val (pe_call (okD_is_bud_word T) (hr.mono (by decide)) rfl T.g_is_bud_word T.F_is_bud_word.kp T.b_is_bud_word .nil pass0 (pa_cons (pe_ix ix_seq (pv 0) pe_int (fun _ _ => rfl)) pa_nil)))))))) (pss_one (ps_ret pe_bl)) pss_nil)
      (pss_one (ps_ret (pe_and (pe_call (okD_is_whole T) (hr.mono (by decide)) rfl T.g_is_whole T.F_is_whole.kp T.b_is_whole .nil pass0 (pa_cons (pe_ix ix_seq (pv 0) pe_int (fun _ _ => rfl)) (pa_cons pe_int pa_nil))) (pe_one (pe_cmpR op_le (pe_ix ix_seq (pv 0) pe_int (fun _ _ => rfl)) (pe_glob (v := .int (10 ^ 300)) rfl c_MOST_TIMES ⟨_, rfl⟩) (nomark _))))))), ?_⟩
    refine ⟨_, rfl, nilI (sp_list hd fun H1 s1 => ⟨_, rfl, ?_⟩)⟩
    cases e : seqD d with
    | none =>
      have e1 : kList d = false := by unfold kList; rw [e]; rfl
      have e2 : stretchD d = false := by unfold stretchD; rw [e]
      rw [e1]
      rw [e2] at k
      exact iteT (k _ s1)
    | some ds =>
      have e1 : kList d = true := by unfold kList; rw [e]; rfl
      rw [e1]
      have hl := hs.1 ds e
      obtain ⟨a, xs, rfl, hS, hA⟩ := dp_seq (Dp.same s1 hd) e
      have hle := DpAll.length hA
      refine iteF ⟨_, rfl, a, _, rfl, hS, rfl, _, rfl, ?_⟩
      by_cases c2 : ds.length = 2
      · refine ifF (nd (congrArg V.int (by omega))) ?_
        obtain ⟨vw, vt, dw, dt, rfl, rfl, hw, ht⟩ := DpAll.two hA c2
        have e2 : stretchD d = (wordD dw && (wholeD dt 0 && timesD dt)) := by unfold stretchD; rw [e]
        rw [e2] at k
        refine ⟨_, rfl, tcI (ix_sq (i := 0) hS rfl ?_)⟩
        refine ⟨vw, dw, rfl, hw, hs.2 _ e dw List.mem_cons_self, fun H2 s2 => ⟨_, rfl, ?_⟩⟩
        cases hwd : wordD dw with
        | false =>
          rw [hwd] at k
          exact iteT (k _ (s1.trans s2))
        | true =>
          rw [hwd] at k
          refine iteF ⟨_, rfl, tcI (ix_sq (i := 1) (Same.sq s2 hS) rfl ?_)⟩
          refine ⟨vt, dt, 0, rfl, Dp.same s2 ht, _, rfl, ?_⟩
          cases ht with
          | int i =>
            by_cases c0 : (0 : Int) ≤ i
            · have e3 : wholeD (.int i) 0 = true := decide_eq_true c0
              rw [e3] at k ⊢
              exact iteT ⟨_, rfl, tcI (ix_sq (i := 1) (Same.sq s2 hS) rfl ⟨_, _, rfl, rfl, k _ (s1.trans s2)⟩)⟩
            · have e3 : wholeD (.int i) 0 = false := decide_eq_false c0
              rw [e3] at k ⊢
              exact iteF (k _ (s1.trans s2))
          | _ => exact iteF (k _ (s1.trans s2))
      · refine ifT (nn (fun z => c2 (by have := V.int.inj z; omega))) ?_
        rw [stretch_len e c2] at k
        exact k _ s1
end
end R4
set_option Elab.async false
set_option linter.all false
set_option maxRecDepth 100000
set_option maxHeartbeats 4000000
namespace R4
open PySem L2 PySem.GW
open RM (Rn)
section
variable {w : World} {K : PySem.W.Frag} {mg : Str → Option Value} {base : Heap}

def Sm3 (d : PyData) : Prop := Sm d ∧ ∀ ds, seqD d = some ds → ∀ x ∈ ds, Sm2 x
/-- data, or an empty dict -/
def DpX (K : PySem.W.Frag) (H : Hp) (v : V) (d : PyData) : Prop := Dp K H v d ∨ ∃ p, v = .ref p ∧ H p = some (.dK []) ∧ d = .dict []
theorem DpX.ty {H : Hp} {v : V} {d : PyData} (h : DpX K H v d) : TyX K H v (.type (tyD d)) := by
  rcases h with h | ⟨p, rfl, h, rfl⟩
  · exact dp_ty h
  · exact .base (.dK h)
theorem DpX.dp {H : Hp} {v : V} {d : PyData} {ds : List PyData} (h : DpX K H v d) (e : seqD d = some ds) : Dp K H v d := by
  rcases h with h | ⟨p, rfl, h, rfl⟩
  · exact h
  · cases e
theorem sp_listX {H : Hp} {v : V} {d : PyData} {Q : VK} {E : XK} (h : DpX K H v d) (q : ∀ H', Same H H' → Q (.bl (kList d)) H') : spIsList K [v] H Q E := by
  have ty := h.ty
  cases d with
  | none => exact ⟨v, "NoneType", false, rfl, ty, kitLT (b1 := false) (b2 := false) (by decide +kernel) (by decide +kernel), q⟩
  | bool b => exact ⟨v, "bool", false, rfl, ty, kitLT (b1 := false) (b2 := false) (by decide +kernel) (by decide +kernel), q⟩
  | int i => exact ⟨v, "int", false, rfl, ty, kitLT (b1 := false) (b2 := false) (by decide +kernel) (by decide +kernel), q⟩
  | str x => exact ⟨v, "str", false, rfl, ty, kitLT (b1 := false) (b2 := false) (by decide +kernel) (by decide +kernel), q⟩
  | list x => exact ⟨v, "list", true, rfl, ty, kitLT (b1 := true) (b2 := false) (by decide +kernel) (by decide +kernel), q⟩
  | tuple x => exact ⟨v, "tuple", true, rfl, ty, kitLT (b1 := false) (b2 := true) (by decide +kernel) (by decide +kernel), q⟩
  | dict x => exact ⟨v, "dict", false, rfl, ty, kitLT (b1 := false) (b2 := false) (by decide +kernel) (by decide +kernel), q⟩
/-- the index that is told of a value that is no list of stretches; none: it is one -/
def NeedR (d : PyData) (r : Option Int) : Prop := (seqD d = none ∧ r = some (-1)) ∨ (∃ ds, seqD d = some ds ∧ 20 < ds.length ∧ r = some (-1)) ∨
  (∃ ds i x, seqD d = some ds ∧ ds.length ≤ 20 ∧ ds[i]? = some x ∧ stretchD x = false ∧ (∀ j y, j < i → ds[j]? = some y → stretchD y = true) ∧ r = some ((i : Nat) : Int)) ∨
  (∃ ds, seqD d = some ds ∧ ds.length ≤ 20 ∧ (∀ y ∈ ds, stretchD y = true) ∧ r = none)
def spNeedD (K : PySem.W.Frag) : Sp := fun vs H Q E => ∃ (v : V) (d : PyData) (r : Option Int), vs = [v] ∧ DpX K H v d ∧ Sm3 d ∧ NeedR d r ∧ (r = none → ∀ H', Same H H' → Q .non H') ∧ (∀ i, r = some i → ∀ dd H', Same H H' → H' dd = some (.xd [("index", .int i)]) → E (.ref (He.ga K "BadRow")) (some dd) H')

theorem okx_need (T : Top K mg) : FnOk PW w K mg base (L2.CX PW w) 6 (fa K "need_stretches") (fdOf K (fa K "need_stretches")) ["value"] (spNeedD K) := by
  refine T.F_need_stretches.okX sc_need_stretches (fun vs H Q E h => ?_) (fun cdv A outer s H vs Q E hr h => ?_)
  · obtain ⟨v, d, r, rfl, _hd, _hsm, _hR, _kn, _kx⟩ := h
    rfl
  · obtain ⟨v, d, r, rfl, hd, hsm, hR, kn, kx⟩ := h
    have hu := hu_of hr
    obtain ⟨t_MOST_STRETCHES, c_MOST_STRETCHES⟩ := T.c_MOST_STRETCHES
    have hrE : Room 3 _ := hr.mono (by decide)
    refine ⟨_, (pss_cons (ps_if (PW.pt (pw_or (pt_not (pt_val (pe_call (ok_is_list T) (hr.mono (by decide)) rfl T.g_is_list T.F_is_list.kp T.b_is_list .nil pass0 (pa_cons (pv 0) pa_nil)))) (pw_or1 (pt_cmpR op_gt (pe_callB call_len_seq (by rfl) T.z_len (by decide +kernel) (pa_cons (pv 0) pa_nil)) (pe_glob (v := .int 20) rfl c_MOST_STRETCHES ⟨_, rfl⟩) (nomark _))))) (pss_one (ps_raise rfl (takes_of rfl rfl rfl rfl) (pmk_err (raises_own T.e_BadRow.z.hs T.e_BadRow.t) (per_pos T.e_BadRow.c T.e_BadRow.i hrE (by rfl) T.e_BadRow.g T.e_BadRow.k (eb_BadRow_1) (pa_cons (pe_un un_neg pe_int) pa_nil))))) pss_nil)
      (pss_one (ps_for (passes_of rfl) rfl (pi_or (pi_enum (by rfl) T.z_enumerate (pa_cons (pv 0) pa_nil)) (pi_enumT (by rfl) T.z_enumerate (pa_cons (pv 0) pa_nil))) (pg_tup (by rfl) (pgs_cons (pg_name (i := 1) sc_need_stretches.nd rfl (Or.inl rfl)) (pgs_cons (pg_name (i := 2) sc_need_stretches.nd rfl (Or.inl rfl)) pgs_nil))) (pss_one (ps_if (pt_not (pt_val (pe_call (okD_is_stretch T) (hr.mono (by decide)) rfl T.g_is_stretch T.F_is_stretch.kp T.b_is_stretch .nil pass0 (pa_cons (pv 2) pa_nil)))) (pss_one (ps_raise rfl (takes_of rfl rfl rfl rfl) (pmk_err (raises_own T.e_BadRow.z.hs T.e_BadRow.t) (per_pos T.e_BadRow.c T.e_BadRow.i hrE (by rfl) T.e_BadRow.g T.e_BadRow.k (eb_BadRow_1) (pa_cons (pv 1) pa_nil))))) pss_nil))))), ?_⟩
    refine ⟨_, rfl, nilI (sp_listX hd fun H1 s1 => ⟨_, rfl, ?_⟩)⟩
    cases e : seqD d with
    | none =>
      have e1 : kList d = false := by unfold kList; rw [e]; rfl
      rw [e1]
      have hr0 : r = some (-1) := by
        rcases hR with ⟨_, h⟩ | ⟨ds, h, _⟩ | ⟨ds, i, x, h, _⟩ | ⟨ds, h, _⟩
        · exact h
        · rw [e] at h; cases h
        · rw [e] at h; cases h
        · rw [e] at h; cases h
      refine iteT ⟨_, rfl, rfl, fun dd hdd => kx _ hr0 dd _ (s1.trans (same_upd hdd)) upd_same⟩
    | some ds =>
      have e1 : kList d = true := by unfold kList; rw [e]; rfl
      rw [e1]
      have hl := hsm.1 ds e
      have hd' := Dp.same s1 (hd.dp e)
      obtain ⟨a, xs, rfl, hS, hA⟩ := dp_seq hd' e
      have hle := DpAll.length hA
      refine iteF ⟨_, rfl, a, _, rfl, hS, _, _, rfl, rfl, _, rfl, ?_⟩
      by_cases c : 20 < ds.length
      · have hr0 : r = some (-1) := by
          rcases hR with ⟨h, _⟩ | ⟨ds2, h, _, h2⟩ | ⟨ds2, i, x, h, h2, _⟩ | ⟨ds2, h, h2, _⟩
          · rw [e] at h; cases h
          · exact h2
          · rw [e] at h; cases h; omega
          · rw [e] at h; cases h; omega
        exact ifT (decide_eq_true (by omega)) ⟨_, rfl, rfl, fun dd hdd => kx _ hr0 dd _ (s1.trans (same_upd hdd)) upd_same⟩
      · refine ifF (decide_eq_false (by omega)) ?_
        have hR3 : ∀ i x, ds[i]? = some x → stretchD x = false → (∀ j y, j < i → ds[j]? = some y → stretchD y = true) → r = some ((i : Nat) : Int) := by
          intro i x hx hf hok
          rcases hR with ⟨h, _⟩ | ⟨ds2, h, h2, _⟩ | ⟨ds2, i2, x2, h, h2, h3, h4, h5, h6⟩ | ⟨ds2, h, h2, h3, _⟩
          · rw [e] at h; cases h
          · rw [e] at h; cases h; omega
          · rw [e] at h; cases h
            rw [h6]
            have e9 : i2 = i := by
              rcases Nat.lt_trichotomy i2 i with z | z | z
              · rw [hok i2 x2 z h3] at h4; cases h4
              · exact z
              · rw [h5 i x z hx] at hf; cases hf
            rw [e9]
          · rw [e] at h; cases h
            rw [h3 x (List.mem_of_getElem? hx)] at hf; cases hf
        have hR4 : (∀ y ∈ ds, stretchD y = true) → r = none := by
          intro hall
          rcases hR with ⟨h, _⟩ | ⟨ds2, h, h2, _⟩ | ⟨ds2, i2, x2, h, h2, h3, h4, h5, h6⟩ | ⟨ds2, h, h2, h3, h4⟩
          · rw [e] at h; cases h
          · rw [e] at h; cases h; omega
          · rw [e] at h; cases h
            rw [hall x2 (List.mem_of_getElem? h3)] at h4; cases h4
          · exact h4
        rcases hS with hS | hS
        · refine .inl ⟨_, rfl, a, xs, rfl, hS, for_enum (K := K) (a := a) (xs := xs) (fun i σ H2 => Same H1 H2 ∧ (∃ o1 o2, σ = [some (.ref a), o1, o2]) ∧ ∀ j y, j < i → ds[j]? = some y → stretchD y = true) ⟨Same.refl _, ⟨_, _, rfl⟩, fun j y hj => absurd hj (Nat.not_lt_zero _)⟩ (fun i σ H2 _ ⟨s2, _⟩ => s2.seq hS) ?_ ?_⟩
          · rintro i x T0 σ H2 hi ⟨s2, ⟨o1, o2, rfl⟩, hok⟩ hT
            obtain ⟨dj, hdj, hx⟩ := DpAll.at hA hi
            refine ⟨T0, _, rfl, SqT.of upd_same, rfl, _, _, rfl, _, _, rfl, rfl, ?_⟩
            have s3 := s2.trans (same_upd (o := .tup [.int (i : Nat), x]) hT)
            refine ⟨_, rfl, x, dj, rfl, Dp.same s3 hx, hsm.2 ds e dj (List.mem_of_getElem? hdj), fun H3 sm3 => ⟨_, rfl, ?_⟩⟩
            cases hst : stretchD dj with
            | true =>
              refine iteF ⟨s3.trans sm3, ⟨_, _, rfl⟩, fun j y hj hy => ?_⟩
              rcases Nat.lt_succ_iff_lt_or_eq.mp hj with h | h
              · exact hok j y h hy
              · subst h
                rw [hdj] at hy
                cases Option.some.inj hy
                exact hst
            | false =>
              refine iteT ⟨_, rfl, rfl, fun dd hdd => ?_⟩
              refine kx i (hR3 i dj hdj hst hok) dd _ (s1.trans (s3.trans (sm3.trans (same_upd hdd)))) upd_same
          · rintro σ H2 ⟨s2, ⟨o1, o2, rfl⟩, hok⟩
            exact kn (hR4 fun y hy => by
              obtain ⟨j, hj⟩ := List.getElem?_of_mem hy
              exact hok j y (by rw [hle]; exact (List.getElem?_eq_some_iff.mp hj).1) hj) _ (s1.trans s2)
        · refine .inr ⟨_, rfl, a, xs, rfl, hS, for_enumT (K := K) (a := a) (xs := xs) (fun i σ H2 => Same H1 H2 ∧ (∃ o1 o2, σ = [some (.ref a), o1, o2]) ∧ ∀ j y, j < i → ds[j]? = some y → stretchD y = true) ⟨Same.refl _, ⟨_, _, rfl⟩, fun j y hj => absurd hj (Nat.not_lt_zero _)⟩ (fun i σ H2 _ ⟨s2, _⟩ => Same.seqT s2 hS) ?_ ?_⟩
          · rintro i x T0 σ H2 hi ⟨s2, ⟨o1, o2, rfl⟩, hok⟩ hT
            obtain ⟨dj, hdj, hx⟩ := DpAll.at hA hi
            refine ⟨T0, _, rfl, SqT.of upd_same, rfl, _, _, rfl, _, _, rfl, rfl, ?_⟩
            have s3 := s2.trans (same_upd (o := .tup [.int (i : Nat), x]) hT)
            refine ⟨_, rfl, x, dj, rfl, Dp.same s3 hx, hsm.2 ds e dj (List.mem_of_getElem? hdj), fun H3 sm3 => ⟨_, rfl, ?_⟩⟩
            cases hst : stretchD dj with
            | true =>
              refine iteF ⟨s3.trans sm3, ⟨_, _, rfl⟩, fun j y hj hy => ?_⟩
              rcases Nat.lt_succ_iff_lt_or_eq.mp hj with h | h
              · exact hok j y h hy
              · subst h
                rw [hdj] at hy
                cases Option.some.inj hy
                exact hst
            | false =>
              refine iteT ⟨_, rfl, rfl, fun dd hdd => ?_⟩
              refine kx i (hR3 i dj hdj hst hok) dd _ (s1.trans (s3.trans (sm3.trans (same_upd hdd)))) upd_same
          · rintro σ H2 ⟨s2, ⟨o1, o2, rfl⟩, hok⟩
            exact kn (hR4 fun y hy => by
              obtain ⟨j, hj⟩ := List.getElem?_of_mem hy
              exact hok j y (by rw [hle]; exact (List.getElem?_eq_some_iff.mp hj).1) hj) _ (s1.trans s2)
end
end R4
set_option Elab.async false
set_option linter.all false
set_option maxRecDepth 100000
set_option maxHeartbeats 4000000
namespace R4
open PySem L2 PySem.GW
open RM (Rn)
section
variable {w : World} {K : PySem.W.Frag} {mg : Str → Option Value} {base : Heap}

/-- a stretch: its word a list or a tuple -/
def PairS (K : PySem.W.Frag) (H : Hp) (v : V) (r : Rn) : Prop := ∃ a w, v = .ref a ∧ SqT K H a [.ref w, .int (r.2 : Int)] ∧ Sq K H w (r.1.map V.int)
theorem PairS.same {H H' : Hp} {v : V} {r : Rn} (e : Same H H') (h : PairS K H v r) : PairS K H' v r := by
  obtain ⟨a, w, h1, h2, h3⟩ := h
  exact ⟨a, w, h1, Same.seqT e h2, Same.sq e h3⟩
def StrS (K : PySem.W.Frag) (H : Hp) (a : Addr) (ss : List Rn) : Prop := ∃ xs, Sq K H a xs ∧ Paired (PairS K H) xs ss
theorem StrS.same {H H' : Hp} {a : Addr} {ss : List Rn} (e : Same H H') (h : StrS K H a ss) : StrS K H' a ss := by
  obtain ⟨xs, h1, h2⟩ := h
  exact ⟨xs, Same.sq e h1, Paired.mapP h2 fun _ _ => PairS.same e⟩
theorem RunsAt.strS {H : Hp} {a : Addr} {ss : List Rn} (h : RunsAt K H a ss) : StrS K H a ss := by
  obtain ⟨xs, h1, h2⟩ := h
  exact ⟨xs, .inl h1, Paired.mapP h2 fun _ _ ⟨a, w, e, q1, q2⟩ => ⟨a, w, e, q1, .inr q2⟩⟩
theorem dpInts {H : Hp} : ∀ ns : List Int, DpAll K H (ns.map V.int) (ns.map PyData.int)
  | [] => .nil
  | n :: ns => .cons (.int n) (dpInts ns)
theorem int_all (ns : List Int) : (ns.map PyData.int).all isIntD = true := by
  rw [List.all_eq_true]
  intro x hx
  obtain ⟨n, _, rfl⟩ := List.mem_map.mp hx
  rfl
theorem num_all {ns : List Int} (h : ∀ x ∈ ns, 0 ≤ x ∧ x < 4) : (ns.map PyData.int).all numD = true := by
  rw [List.all_eq_true]
  intro x hx
  obtain ⟨n, hn, rfl⟩ := List.mem_map.mp hx
  show (if decide ((0 : Int) ≤ n) = true then decide (n < 4) else false) = true
  rw [if_pos (decide_eq_true (h n hn).1), decide_eq_true (h n hn).2]
/-- a right stretch as data -/
theorem pairS_dp {H : Hp} {v : V} {r : Rn} (h : PairS K H v r) (ok : StrOk r) : ∃ d, Dp K H v d ∧ stretchD d = true ∧ Sm2 d := by
  obtain ⟨a, w, rfl, h1, h2⟩ := h
  obtain ⟨o1, o2, o3, o4⟩ := ok
  have key : ∀ dw, seqD dw = some (r.1.map PyData.int) → Dp K H (.ref w) dw → ∃ d, Dp K H (.ref a) d ∧ stretchD d = true ∧ Sm2 d := by
    intro dw e hw
    refine ⟨.tuple [dw, .int (r.2 : Int)], .tup h1 (.cons hw (.cons (.int _) .nil)), ?_, ?_⟩
    · show (wordD dw && (wholeD (.int (r.2 : Int)) 0 && timesD (.int (r.2 : Int)))) = true
      have e1 : wordD dw = true := by
        unfold wordD
        rw [e]
        show ((r.1.map PyData.int).all isIntD && (decide (1 ≤ (r.1.map PyData.int).length) && (decide ((r.1.map PyData.int).length ≤ 40) && (r.1.map PyData.int).all numD))) = true
        rw [int_all, num_all o3, List.length_map, decide_eq_true o1, decide_eq_true o2]
        rfl
      have e2 : wholeD (.int (r.2 : Int)) 0 = true := by show decide ((0 : Int) ≤ (r.2 : Int)) = true; exact decide_eq_true (by omega)
      have e3 : timesD (.int (r.2 : Int)) = true := by
        show decide (((r.2 : Nat) : Int) ≤ 10 ^ 300) = true
        refine decide_eq_true ?_
        have h9 : ((r.2 : Nat) : Int) ≤ ((10 ^ 300 : Nat) : Int) := Int.ofNat_le.mpr o4
        exact Int.le_trans h9 (by decide +kernel)
      rw [e1, e2, e3]
      rfl
    · refine ⟨fun ds hds => ?_, fun ds hds x hx => ?_⟩
      · cases Option.some.inj hds
        exact Nat.le_of_ble_eq_true rfl
      · cases Option.some.inj hds
        intro ds2 h3
        rcases List.mem_cons.mp hx with z | z
        · subst z
          rw [e] at h3
          cases Option.some.inj h3
          rw [List.length_map]
          omega
        · rw [List.mem_singleton.mp z] at h3
          cases h3
  rcases h2 with h2 | h2
  · exact key (.list (r.1.map PyData.int)) rfl (.lst h2 (dpInts _))
  · exact key (.tuple (r.1.map PyData.int)) rfl (.tup h2 (dpInts _))
theorem strS_all {H : Hp} : ∀ {xs : List V} {ss : List Rn}, Paired (PairS K H) xs ss → (∀ r ∈ ss, StrOk r) → ∃ ds, DpAll K H xs ds ∧ ds.length = ss.length ∧ (∀ y ∈ ds, stretchD y = true) ∧ ∀ y ∈ ds, Sm2 y
  | _, _, .nil, _ => ⟨[], .nil, rfl, fun y hy => (nomatch hy), fun y hy => (nomatch hy)⟩
  | _, _, .cons h t, ok => by
    obtain ⟨d, h1, h2, h3⟩ := pairS_dp h (ok _ List.mem_cons_self)
    obtain ⟨ds, g1, g2, g3, g4⟩ := strS_all t fun r hr => ok r (List.mem_cons_of_mem _ hr)
    refine ⟨d :: ds, .cons h1 g1, by rw [List.length_cons, List.length_cons, g2], fun y hy => ?_, fun y hy => ?_⟩
    · rcases List.mem_cons.mp hy with z | z
      · rw [z]; exact h2
      · exact g3 y z
    · rcases List.mem_cons.mp hy with z | z
      · rw [z]; exact h3
      · exact g4 y z
/-- right stretches as an argument of need_stretches -/
theorem strS_need {H : Hp} {a : Addr} {ss : List Rn} (h : StrS K H a ss) (hl : ss.length ≤ 20) (ok : ∀ r ∈ ss, StrOk r) : ∃ d, DpX K H (.ref a) d ∧ Sm3 d ∧ NeedR d none := by
  obtain ⟨xs, h1, h2⟩ := h
  obtain ⟨ds, g1, g2, g3, g4⟩ := strS_all h2 ok
  have key : ∀ d, seqD d = some ds → Sm3 d ∧ NeedR d none := fun d e => ⟨⟨fun ds2 h => by rw [e] at h; cases Option.some.inj h; omega, fun ds2 h => by rw [e] at h; cases Option.some.inj h; exact g4⟩, .inr (.inr (.inr ⟨ds, e, by omega, g3, rfl⟩))⟩
  rcases h1 with h1 | h1
  · exact ⟨.list ds, .inl (.lst h1 g1), key _ rfl⟩
  · exact ⟨.tuple ds, .inl (.tup h1 g1), key _ rfl⟩
def spInitX (K : PySem.W.Frag) : Sp := fun vs H Q E => ∃ (x dx : Addr) (va : V) (b : Bool), vs = [.ref x, va, .bl b] ∧ H x = some (.ins (cR K) dx []) ∧
  ((∃ a ss, va = .ref a ∧ StrS K H a ss ∧ Fit ss ∧ (b = true → ss.length ≤ 20 ∧ ∀ r ∈ ss, StrOk r) ∧ ∀ H', SameBut x H H' → RowAt K H' x ss → Q .non H') ∨
   (b = true ∧ ∃ d i, DpX K H va d ∧ Sm3 d ∧ NeedR d (some i) ∧ ∀ dd H', Same H H' → H' dd = some (.xd [("index", .int i)]) → E (.ref (He.ga K "BadRow")) (some dd) H'))

theorem okx_init (T : Top K mg) : FnOk PW w K mg base (L2.CX PW w) 7 (me K "__init__") (fdOf K (me K "__init__")) ["self", "stretches", "checked"] (spInitX K) := by
  have F := T.D_init0
  refine F.ok sc_Row___init__ (fun vs H Q E h => ?_) (fun cdv A outer s H vs Q E hr h => ?_)
  · obtain ⟨x, dx, va, b, rfl, _hx, _hh⟩ := h
    rfl
  · obtain ⟨x, dx, va, b, rfl, hx, hh⟩ := h
    have hu := hu_of hr
    refine ⟨_, (pss_cons (ps_if (pt_val (pv 2)) (pss_one (ps_expr (pe_call (okx_need T) (hr.mono (by decide)) rfl T.g_need_stretches T.F_need_stretches.kp T.b_need_stretches .nil (passes_call (takes_of rfl rfl rfl rfl) (fun _ _ _ _ h => h)) (pa_cons (pv 1) pa_nil)))) pss_nil)
      (pss_one (ps_fld (pv 0) (pe_callTy call_tuple_of (by rfl) T.z_tuple (by decide +kernel) (pa_cons (pe_lc (own := [("word", 3), ("times", 4)]) (te := tTup (tCons (tCB (rTupOf K) (tCons (tVar 3) tNil)) (tCons (tVar 4) tNil))) (g := gTup K 2 (gCons (gName 3) (gCons (gName 4) gNil))) (by rfl) sc_Row___init__.nd (pi_or (pi_list (pv 1)) (pi_tup (pv 1))) (blkOk_by (own := [("word", 3), ("times", 4)]) (N := ["self", "stretches", "checked", "word", "times"]) (sc := (defScope s_Row___init__)) (by decide +kernel)) (fun _ _ _ _ _ => (pg_tup (by rfl) (pgs_cons (pg_name (i := 3) sc_Row___init__.nd rfl (Or.inl rfl)) (pgs_cons (pg_name (i := 4) sc_Row___init__.nd rfl (Or.inl rfl)) pgs_nil)))) (fun _ _ _ _ _ => pts_nil) (fun _ _ _ _ _ => (pe_tup (pa_cons (pe_callTy call_tuple_of (by rfl) T.z_tuple (by decide +kernel) (pa_cons (pv 3) pa_nil)) (pa_cons (pv 4) pa_nil))))) pa_nil)) rfl))), ?_⟩
    rcases hh with ⟨a, ss, rfl, hS, hf, hb, k⟩ | ⟨rfl, d, i, hd, hsm, hN, k⟩
    · obtain ⟨xs, h1, hp⟩ := id hS
      have hle : xs.length = ss.length := Paired.length hp
      obtain ⟨hf1, hf2⟩ := hf
      refine ⟨_, rfl, _, rfl, joinT (fun H1 => Same H H1) (fun hbt nx hnx => ?_) (fun _ => Same.refl _) fun H1 s1 => ?_⟩
      · obtain ⟨d, g1, g2, g3⟩ := strS_need hS (hb hbt).1 (hb hbt).2
        exact ⟨_, rfl, .ref a, d, none, rfl, g1, g2, g3, fun _ H1 s1 => hnx H1 s1, fun i z => nomatch z⟩
      replace h1 := Same.sq s1 h1
      replace hp : Paired (PairS K H1) xs ss := Paired.mapP hp fun _ _ => PairS.same s1
      replace hx := s1 _ _ hx
      rcases h1 with h1 | h1
      · refine .inl ⟨_, rfl, a, rfl, ⟨_, h1⟩, fun D hD => ?_⟩
        refine lc_list (K := K) (a := a) (xs := xs) (fun i H2 => Same H1 H2 ∧ ∃ vs, H2 D = some (.lst vs) ∧ Pairs K H2 vs (ss.take i)) ⟨same_upd hD, _, upd_same, .nil⟩ (fun i H2 _ ⟨s2, _⟩ => s2.seq h1) ?_ ?_
        · rintro i y H2 hi ⟨s2, vs, hD2, hacc⟩
          obtain ⟨r, hr1, q⟩ := paired_at hp hi
          obtain ⟨q0, wd, rfl, q1, q2⟩ := q.same s2
          have hil : i < ss.length := (List.getElem?_eq_some_iff.mp hr1).1
          have hvl : vs.length = (ss.take i).length := Paired.length hacc
          rw [List.length_take] at hvl
          refine ⟨q0, _, rfl, q1, rfl, _, _, rfl, _, _, rfl, rfl, rfl, ?_⟩
          refine ⟨_, rfl, nilI (tup_of q2 fun wt H3 s3 q3 => ⟨_, rfl, Nat.le_of_ble_eq_true rfl, fun p4 h4 => ?_⟩)⟩
          have s6 := s3.trans (same_upd (o := .tup [.ref wt, .int ((r.2 : Nat) : Int)]) h4)
          refine ⟨_, s6 _ _ hD2, (by rw [sizeLine_eq]; omega), same_at hD (s2.trans s6), _, upd_same, ?_⟩
          rw [take_at hr1]
          exact Pairs.upd (s6 _ _ hD2) (Paired.append (Pairs.same s6 hacc) ⟨p4, wt, rfl, SqT.of upd_same, Same.seqT (same_upd h4) q3⟩)
        · rintro H2 ⟨s2, vs, hD2, hacc⟩
          rw [hle, List.take_length] at hacc
          refine ⟨D, vs, rfl, .inl ⟨SqL.of hD2, fun l hl => ⟨_, rfl, x, cR K, dx, [], rfl, same_upd hl _ _ (s2 _ _ hx), T.cl, T.nS, by decide, ?_⟩⟩⟩
          have s7 := same_upd (o := .tup vs) hl
          have hx2 := s7 _ _ (s2 _ _ hx)
          refine k _ (fun b o hne e => ?_) ⟨dx, l, vs, upd_same, sqT_updI hx2 (SqT.of upd_same), Pairs.updI hx2 (Pairs.same s7 hacc)⟩
          rw [upd_ne hne]
          exact s7 _ _ (s2 _ _ (s1 _ _ e))
      · refine .inr ⟨_, rfl, a, rfl, ⟨_, h1⟩, fun D hD => ?_⟩
        refine lc_tup (K := K) (a := a) (xs := xs) (fun i H2 => Same H1 H2 ∧ ∃ vs, H2 D = some (.lst vs) ∧ Pairs K H2 vs (ss.take i)) ⟨same_upd hD, _, upd_same, .nil⟩ (fun i H2 _ ⟨s2, _⟩ => Same.seqT s2 h1) ?_ ?_
        · rintro i y H2 hi ⟨s2, vs, hD2, hacc⟩
          obtain ⟨r, hr1, q⟩ := paired_at hp hi
          obtain ⟨q0, wd, rfl, q1, q2⟩ := q.same s2
          have hil : i < ss.length := (List.getElem?_eq_some_iff.mp hr1).1
          have hvl : vs.length = (ss.take i).length := Paired.length hacc
          rw [List.length_take] at hvl
          refine ⟨q0, _, rfl, q1, rfl, _, _, rfl, _, _, rfl, rfl, rfl, ?_⟩
          refine ⟨_, rfl, nilI (tup_of q2 fun wt H3 s3 q3 => ⟨_, rfl, Nat.le_of_ble_eq_true rfl, fun p4 h4 => ?_⟩)⟩
          have s6 := s3.trans (same_upd (o := .tup [.ref wt, .int ((r.2 : Nat) : Int)]) h4)
          refine ⟨_, s6 _ _ hD2, (by rw [sizeLine_eq]; omega), same_at hD (s2.trans s6), _, upd_same, ?_⟩
          rw [take_at hr1]
          exact Pairs.upd (s6 _ _ hD2) (Paired.append (Pairs.same s6 hacc) ⟨p4, wt, rfl, SqT.of upd_same, Same.seqT (same_upd h4) q3⟩)
        · rintro H2 ⟨s2, vs, hD2, hacc⟩
          rw [hle, List.take_length] at hacc
          refine ⟨D, vs, rfl, .inl ⟨SqL.of hD2, fun l hl => ⟨_, rfl, x, cR K, dx, [], rfl, same_upd hl _ _ (s2 _ _ hx), T.cl, T.nS, by decide, ?_⟩⟩⟩
          have s7 := same_upd (o := .tup vs) hl
          have hx2 := s7 _ _ (s2 _ _ hx)
          refine k _ (fun b o hne e => ?_) ⟨dx, l, vs, upd_same, sqT_updI hx2 (SqT.of upd_same), Pairs.updI hx2 (Pairs.same s7 hacc)⟩
          rw [upd_ne hne]
          exact s7 _ _ (s2 _ _ (s1 _ _ e))
    · refine ⟨_, rfl, _, rfl, joinT (fun _ => False) (fun hbt nx hnx => ?_) (fun z => absurd z.symm Bool.false_ne_true) fun _ z => z.elim⟩
      exact ⟨_, rfl, va, d, some i, rfl, hd, hsm, hN, (fun z => nomatch z), fun j hj dd H' s' hdd => k dd H' s' (by cases Option.some.inj hj; exact hdd)⟩
end
end R4
set_option Elab.async false
set_option linter.all false
set_option maxRecDepth 100000
set_option maxHeartbeats 4000000
namespace R4
open PySem L2 PySem.GW
open RM (Rn)
section
variable {w : World} {K : PySem.W.Frag} {mg : Str → Option Value} {base : Heap}

def spOutX (K : PySem.W.Frag) (c : Nat → Int → Prop) : Sp := fun vs H _ E => ∃ (p : Addr) (l : List Int) (n : Nat) (v : V) (d : PyData), vs = [.ref p, v] ∧ RowOf K H p l n ∧ Dp K H v d ∧ (wholeD d 0 = false ∨ ∃ i : Int, v = .int i ∧ c l.length i) ∧ ∀ dd H', Same H H' → H' dd = some (.xd [("number", v)]) → E (.ref (He.ga K "OutsideRow")) (some dd) H'

theorem okO_bud (T : Top K mg) : FnOk PW w K mg base (L2.CX PW w) 4 (me K "bud") (fdOf K (me K "bud")) ["self", "index"] (spOutX K (fun n i => (n : Int) ≤ i)) := by
  refine T.F_Row_bud.okX sc_Row_bud (fun vs H Q E h => ?_) (fun cdv A outer s H vs Q E hr h => ?_)
  · obtain ⟨p, l, n, v, d, rfl, _hR, _hd, _hc, _k⟩ := h
    rfl
  · obtain ⟨p, l, n, v, d, rfl, hR, hd, hc, k⟩ := h
    have hu := hu_of hr
    have hrE : Room 3 _ := hr.mono (by decide)
    refine ⟨_, (pss_cons (ps_if (PW.pt (pw_or (pt_not (pt_val (pe_call (okD_is_whole T) (hr.mono (by decide)) rfl T.g_is_whole T.F_is_whole.kp T.b_is_whole .nil pass0 (pa_cons (pv 1) (pa_cons pe_int pa_nil))))) (pw_or1 (pt_cmpR op_ge (pv 1) (pe_meth0 (pv 0) T.cl T.m_total (ok_Row_total T) (hr.mono (by decide)) T.b_Row_total .nil pass0) (nomark _))))) (pss_one (ps_raise rfl (takes_of rfl rfl rfl rfl) (pmk_err (raises_own T.e_OutsideRow.z.hs T.e_OutsideRow.t) (per_pos T.e_OutsideRow.c T.e_OutsideRow.i hrE (by rfl) T.e_OutsideRow.g T.e_OutsideRow.k (eb_OutsideRow_1) (pa_cons (pv 1) pa_nil))))) pss_nil)
      (pss_cons ps_never
      (pss_cons ps_never
      (pss_one (ps_raise rfl (takes_of rfl rfl rfl rfl) (pmk_err (raises_own T.e_OutsideRow.z.hs T.e_OutsideRow.t) (per_pos T.e_OutsideRow.c T.e_OutsideRow.i hrE (by rfl) T.e_OutsideRow.g T.e_OutsideRow.k (eb_OutsideRow_1) (pa_cons (pv 1) pa_nil)))))))), ?_⟩
    obtain ⟨ss, hA, hF, hln, rfl⟩ := hR
    obtain ⟨dx, T0, xs0, g1, g2, g3⟩ := id hA
    refine ⟨_, rfl, tcI ⟨v, d, 0, rfl, hd, _, rfl, ?_⟩⟩
    cases hw : wholeD d 0 with
    | false => exact iteT ⟨_, rfl, rfl, fun dd hdd => k dd _ (same_upd hdd) upd_same⟩
    | true =>
      rcases hc with hc | ⟨i, rfl, hc⟩
      · rw [hw] at hc; cases hc
      · exact iteF ⟨_, rfl, _, rfl, p, dx, _, rfl, g1, rfl, p, ss, rfl, hA, hF, fun H1 s1 => ⟨_, _, rfl, rfl, _, rfl, ifT (decide_eq_true hc) ⟨_, rfl, rfl, fun dd hdd => k dd _ (s1.trans (same_upd hdd)) upd_same⟩⟩⟩
theorem okO_beginning (T : Top K mg) : FnOk PW w K mg base (L2.CX PW w) 10 (me K "beginning") (fdOf K (me K "beginning")) ["self", "many"] (spOutX K (fun n i => (n : Int) < i)) := by
  refine T.F_Row_beginning.okX sc_Row_beginning (fun vs H Q E h => ?_) (fun cdv A outer s H vs Q E hr h => ?_)
  · obtain ⟨p, l, n, v, d, rfl, _hR, _hd, _hc, _k⟩ := h
    rfl
  · obtain ⟨p, l, n, v, d, rfl, hR, hd, hc, k⟩ := h
    have hu := hu_of hr
    have hrE : Room 3 _ := hr.mono (by decide)
    refine ⟨_, (pss_cons (ps_if (PW.pt (pw_or (pt_not (pt_val (pe_call (okD_is_whole T) (hr.mono (by decide)) rfl T.g_is_whole T.F_is_whole.kp T.b_is_whole .nil pass0 (pa_cons (pv 1) (pa_cons pe_int pa_nil))))) (pw_or1 (pt_cmpR op_gt (pv 1) (pe_meth0 (pv 0) T.cl T.m_total (ok_Row_total T) (hr.mono (by decide)) T.b_Row_total .nil pass0) (nomark _))))) (pss_one (ps_raise rfl (takes_of rfl rfl rfl rfl) (pmk_err (raises_own T.e_OutsideRow.z.hs T.e_OutsideRow.t) (per_pos T.e_OutsideRow.c T.e_OutsideRow.i hrE (by rfl) T.e_OutsideRow.g T.e_OutsideRow.k (eb_OutsideRow_1) (pa_cons (pv 1) pa_nil))))) pss_nil)
      (pss_cons ps_never
      (pss_cons ps_never
      (pss_cons ps_never
      (pss_one ps_never))))), ?_⟩
    obtain ⟨ss, hA, hF, hln, rfl⟩ := hR
    obtain ⟨dx, T0, xs0, g1, g2, g3⟩ := id hA
    refine ⟨_, rfl, tcI ⟨v, d, 0, rfl, hd, _, rfl, ?_⟩⟩
    cases hw : wholeD d 0 with
    | false => exact iteT ⟨_, rfl, rfl, fun dd hdd => k dd _ (same_upd hdd) upd_same⟩
    | true =>
      rcases hc with hc | ⟨i, rfl, hc⟩
      · rw [hw] at hc; cases hc
      · exact iteF ⟨_, rfl, _, rfl, p, dx, _, rfl, g1, rfl, p, ss, rfl, hA, hF, fun H1 s1 => ⟨_, _, rfl, rfl, _, rfl, ifT (decide_eq_true hc) ⟨_, rfl, rfl, fun dd hdd => k dd _ (s1.trans (same_upd hdd)) upd_same⟩⟩⟩
theorem okO_behind (T : Top K mg) : FnOk PW w K mg base (L2.CX PW w) 10 (me K "behind") (fdOf K (me K "behind")) ["self", "many"] (spOutX K (fun n i => (n : Int) < i)) := by
  refine T.F_Row_behind.okX sc_Row_behind (fun vs H Q E h => ?_) (fun cdv A outer s H vs Q E hr h => ?_)
  · obtain ⟨p, l, n, v, d, rfl, _hR, _hd, _hc, _k⟩ := h
    rfl
  · obtain ⟨p, l, n, v, d, rfl, hR, hd, hc, k⟩ := h
    have hu := hu_of hr
    have hrE : Room 3 _ := hr.mono (by decide)
    refine ⟨_, (pss_cons (ps_if (PW.pt (pw_or (pt_not (pt_val (pe_call (okD_is_whole T) (hr.mono (by decide)) rfl T.g_is_whole T.F_is_whole.kp T.b_is_whole .nil pass0 (pa_cons (pv 1) (pa_cons pe_int pa_nil))))) (pw_or1 (pt_cmpR op_gt (pv 1) (pe_meth0 (pv 0) T.cl T.m_total (ok_Row_total T) (hr.mono (by decide)) T.b_Row_total .nil pass0) (nomark _))))) (pss_one (ps_raise rfl (takes_of rfl rfl rfl rfl) (pmk_err (raises_own T.e_OutsideRow.z.hs T.e_OutsideRow.t) (per_pos T.e_OutsideRow.c T.e_OutsideRow.i hrE (by rfl) T.e_OutsideRow.g T.e_OutsideRow.k (eb_OutsideRow_1) (pa_cons (pv 1) pa_nil))))) pss_nil)
      (pss_one ps_never)), ?_⟩
    obtain ⟨ss, hA, hF, hln, rfl⟩ := hR
    obtain ⟨dx, T0, xs0, g1, g2, g3⟩ := id hA
    refine ⟨_, rfl, tcI ⟨v, d, 0, rfl, hd, _, rfl, ?_⟩⟩
    cases hw : wholeD d 0 with
    | false => exact iteT ⟨_, rfl, rfl, fun dd hdd => k dd _ (same_upd hdd) upd_same⟩
    | true =>
      rcases hc with hc | ⟨i, rfl, hc⟩
      · rw [hw] at hc; cases hc
      · exact iteF ⟨_, rfl, _, rfl, p, dx, _, rfl, g1, rfl, p, ss, rfl, hA, hF, fun H1 s1 => ⟨_, _, rfl, rfl, _, rfl, ifT (decide_eq_true hc) ⟨_, rfl, rfl, fun dd hdd => k dd _ (s1.trans (same_upd hdd)) upd_same⟩⟩⟩
end
end R4
set_option Elab.async false
set_option linter.all false
set_option maxRecDepth 100000
set_option maxHeartbeats 4000000
namespace R4
open PySem L2 PySem.GW
open RM (Rn)
section
variable {w : World} {K : PySem.W.Frag} {mg : Str → Option Value} {base : Heap}

theorem set_dict {X : Cx} (hu : X.A.units + 1 < cLine) : PSet X (fun o i v H Q => ∃ a H', o = .ref a ∧ DPut H a i v H' ∧ Q H') := by
  intro pins s σ H o i v ov iv u Q I ro ri rv h
  obtain ⟨a, H', rfl, g, q⟩ := h
  obtain rfl : ov = Value.ref a := ro
  exact d_setItem hu I g ri rv fun s' I' => ⟨H', I', q⟩
/-! ### where the draws come from -/
def tapeD (c : Addr) (z r : Int) : List (Key × V) := [(Sum.inr "cells", .ref c), (Sum.inr "at", .int z), (Sum.inr "rest", .int r)]
/-- the tape, at most b cells begun -/
def TapeOk (H : Hp) (p c : Addr) (b : Nat) : Prop := ∃ (ns : List Int) (z r : Int), H p = some (.dK (tapeD c z r)) ∧ H c = some (.lst (ns.map V.int)) ∧ 1 ≤ ns.length ∧ ns.length ≤ 63 ∧ 0 ≤ z ∧ z ≤ b ∧ 0 ≤ r
theorem TapeOk.mono {H : Hp} {p c : Addr} {b b' : Nat} (h : TapeOk H p c b) (e : b ≤ b') : TapeOk H p c b' := by
  obtain ⟨ns, z, r, h1, h2, h3, h4, h5, h6, h7⟩ := h
  exact ⟨ns, z, r, h1, h2, h3, h4, h5, by omega, h7⟩
theorem TapeOk.same {H H' : Hp} {p c : Addr} {b : Nat} (e : Same H H') (h : TapeOk H p c b) : TapeOk H' p c b := by
  obtain ⟨ns, z, r, h1, h2, h3⟩ := h
  exact ⟨ns, z, r, e _ _ h1, e _ _ h2, h3⟩
theorem TapeOk.updL {H : Hp} {p c D : Addr} {b : Nat} {o : HO} (h : TapeOk H p c b) (hp : D ≠ p) (hc : D ≠ c) : TapeOk (upd H D o) p c b := by
  obtain ⟨ns, z, r, h1, h2, h3⟩ := h
  exact ⟨ns, z, r, by rw [upd_ne hp.symm]; exact h1, by rw [upd_ne hc.symm]; exact h2, h3⟩
theorem TapeOk.ne {H : Hp} {p c D : Addr} {b : Nat} (h : TapeOk H p c b) (hD : H D = none) : D ≠ p ∧ D ≠ c := by
  obtain ⟨ns, z, r, h1, h2, h3⟩ := h
  exact ⟨fun e => (by rw [e, h1] at hD; cases hD), fun e => (by rw [e, h2] at hD; cases hD)⟩
theorem tape_putA (c : Addr) (z r x : Int) : putK (tapeD c z r) (Sum.inr "at") (.int x) = tapeD c x r := by rfl
theorem tape_putR (c : Addr) (z r x : Int) : putK (tapeD c z r) (Sum.inr "rest") (.int x) = tapeD c z x := by rfl
theorem cut63 (ns : List Int) (h : ns.length ≤ 63) : cutV (ns.map V.int) none (some 63) = ns.map V.int := by
  unfold cutV
  rw [List.length_map, HT.sIx_none, show (some (63 : Int)) = some ((63 : Nat) : Int) from rfl, HT.sIx_nat, List.drop_zero, List.take_of_length_le (by rw [List.length_map]; omega)]
def spBegin (K : PySem.W.Frag) : Sp := fun vs H Q _ => ∃ (a : Addr) (ns : List Int), vs = [.ref a] ∧ SqL K H a (ns.map V.int) ∧ ns.length ≤ 63 ∧ ∀ p c H', Same H H' → H p = none → TapeOk H' p c 0 → Q (.ref p) H'
def Lim (m : Int) : Prop := 0 < m ∧ m.natAbs < 2 ^ 8000
theorem Lim.div {i m : Int} (h : Lim m) : CDivW i m := ⟨h.1, by
  have h1 : m.natAbs ≠ 0 := by have := h.1; omega
  have h2 := (Nat.log2_lt h1).mpr h.2
  omega⟩
def spDraw : Sp := fun vs H Q _ => ∃ (p c : Addr) (b : Nat) (m : Int), vs = [.ref p, .int m] ∧ TapeOk H p c b ∧ b ≤ 1000000000 ∧ Lim m ∧ ∀ x H', 0 ≤ x → x < m → SameBut p H H' → TapeOk H' p c (b + 1) → Q (.int x) H'

theorem ok__law_begin (T : Top K mg) : FnOk PW w K mg base CX0 1 (fa K "_law_begin") (fdOf K (fa K "_law_begin")) ["_law_script"] (spBegin K) := by
  refine T.F__law_begin.ok sc__law_begin (fun vs H Q E h => ?_) (fun cdv A outer s H vs Q E hr h => ?_)
  · obtain ⟨a, ns, rfl, _hS, _hlen, _k⟩ := h
    rfl
  · obtain ⟨a, ns, rfl, hS, hlen, k⟩ := h
    have hu := hu_of hr
    refine ⟨_, (pss_one (ps_ret (pe_disp (pps_cons pe_str (pe_op op_cat (pe_callTy call_list_of (by rfl) T.z_list (by decide +kernel) (pa_cons (pe_slice sl_list (pv 0) po_none (po_some pe_int)) pa_nil)) (pe_op op_rep (pe_lst (pa_cons pe_int pa_nil)) (pe_callTy call_int1 (by rfl) T.z_int (by decide +kernel) (pa_cons (pe_cmpR op_eq (pe_callB call_len_seq (by rfl) T.z_len (by decide +kernel) (pa_cons (pv 0) pa_nil)) pe_int (nomark _)) pa_nil)))) (pps_cons pe_str pe_int (pps_cons pe_str pe_int pps_nil))) (by rfl) (by rfl) (fun z => by cases z) (by decide)))), ?_⟩
    intro p hp
    have s1 := same_upd (o := .dK []) hp
    refine ⟨_, rfl, _, rfl, a, _, rfl, s1.seq hS, fun l hl => ?_⟩
    have s2 := same_upd (o := .lst (cutV (ns.map V.int) none (some 63))) hl
    refine ⟨l, _, rfl, .inl (SqL.of upd_same), fun c0 hc0 => ?_⟩
    have s3 := s2.trans (same_upd (o := .lst (cutV (ns.map V.int) none (some 63))) hc0)
    refine ⟨Nat.le_of_ble_eq_true rfl, fun z hz => ?_⟩
    have s4 := s3.trans (same_upd (o := .lst [.int 0]) hz)
    refine ⟨_, rfl, a, _, rfl, .inl ((s1.trans s4).seq hS), rfl, .inr ⟨_, rfl, ?_⟩⟩
    have hk : (if decide (V.int ((ns.map V.int).length : Int) = V.int 0) = true then (1 : Int) else 0) = ((if ns = [] then 1 else 0 : Nat) : Int) := by
      cases ns with
      | nil => rfl
      | cons x ns =>
        have hne : ¬ (V.int (((x :: ns).map V.int).length : Int) = V.int 0) := by
          intro e
          have e := V.int.inj e
          rw [List.length_map, List.length_cons] at e
          omega
        rw [decide_eq_false hne]
        simp
    rw [hk]
    have hk1 : (if ns = [] then 1 else 0 : Nat) ≤ 1 := by split <;> omega
    have hms : cutV (ns.map V.int) none (some 63) ++ (List.replicate (((if ns = [] then 1 else 0 : Nat) : Int)).toNat [V.int 0]).flatten = (if ns = [] then [0] else ns).map V.int := by
      rw [cut63 ns hlen, Int.toNat_natCast]
      cases ns with
      | nil => rfl
      | cons x ns => rw [if_neg (by simp), if_neg (by simp)]; simp
    have hml : (if ns = [] then [0] else ns).length = ns.length + (if ns = [] then 1 else 0 : Nat) := by
      cases ns with
      | nil => rfl
      | cons x ns => rw [if_neg (by simp), if_neg (by simp)]; rfl
    refine ⟨z, _, _, rfl, rfl, upd_same, by omega, by omega, (by rw [Int.toNat_natCast, sizeLine_eq]; show 1 * _ ≤ _; omega), fun q hq => ?_⟩
    have s5 := s4.trans (same_upd (o := .lst (List.replicate (((if ns = [] then 1 else 0 : Nat) : Int)).toNat [V.int 0]).flatten) hq)
    have hc1 := (same_upd hz).trans (same_upd (o := .lst (List.replicate (((if ns = [] then 1 else 0 : Nat) : Int)).toNat [V.int 0]).flatten) hq) c0 _ (upd_same (o := .lst (cutV (ns.map V.int) none (some 63))))
    refine ⟨c0, q, _, _, rfl, rfl, hc1, upd_same, (by rw [← List.length_append, hms, List.length_map, hml, sizeLine_eq]; omega), fun c hc => ?_⟩
    rw [hms]
    have s6 := s5.trans (same_upd (o := .lst ((if ns = [] then [0] else ns).map V.int)) hc)
    have hp6 := s6 p _ upd_same
    have hpc : c ≠ p := fun e => by rw [e, s5 p _ upd_same] at hc; cases hc
    refine ⟨hp6, tapeD c 0 0, rfl, (by show 3 ≤ 15; decide), ?_⟩
    refine k p c _ (same_at hp (s1.trans s6)) hp ⟨(if ns = [] then [0] else ns), 0, 0, (by rw [upd_same]; rfl), (by rw [upd_ne hpc, upd_same]), ?_, ?_, by omega, by omega, by omega⟩
    · rw [hml]
      cases ns with
      | nil => exact Nat.le_refl _
      | cons x ns => show 1 ≤ (ns.length + 1) + _; omega
    · rw [hml]
      cases ns with
      | nil => decide
      | cons x ns => rw [if_neg (by simp)]; exact hlen
theorem ok__law_draw (T : Top K mg) : FnOk PW w K mg base CX0 1 (fa K "_law_draw") (fdOf K (fa K "_law_draw")) ["_law_tape", "_law_limit"] spDraw := by
  refine T.F__law_draw.ok sc__law_draw (fun vs H Q E h => ?_) (fun cdv A outer s H vs Q E hr h => ?_)
  · obtain ⟨p, c, b, m, rfl, _hT, _hb, _hm, _k⟩ := h
    rfl
  · obtain ⟨p, c, b, m, rfl, hT, hb, hm, k⟩ := h
    have hu := hu_of hr
    refine ⟨_, (pss_cons (ps_if (pt_cmpR op_lt (pe_dget hu (pv 0) pe_str (fun _ _ => rfl)) (pv 1) (nomark _)) (pss_cons (ps_par (i := 2) (j := 3) (by rfl) sc__law_draw.nd rfl rfl (by decide) rfl rfl (pa_cons (pe_dget hu (pv 0) pe_str (fun _ _ => rfl)) (pa_cons (pe_callB call_len_seq (by rfl) T.z_len (by decide +kernel) (pa_cons (pe_dget hu (pv 0) pe_str (fun _ _ => rfl)) pa_nil)) pa_nil)) (by rfl))
      (pss_cons (ps_asg (pe_tup (pa_cons (pe_ix ix_list (pe_dget hu (pv 0) pe_str (fun _ _ => rfl)) (pe_op op_mod (pe_callTy call_int1 (by rfl) T.z_int (by decide +kernel) (pa_cons (pv 2) pa_nil)) (pv 3)) (fun _ _ => rfl)) (pa_cons (pe_op op_add (pv 2) pe_int) pa_nil))) (pg_tup (by rfl) (pgs_cons (pg_name (i := 4) sc__law_draw.nd rfl (Or.inl rfl)) (pgs_cons (pg_sub (pv 0) pe_str (set_dict hu)) pgs_nil))))
      (pss_cons (ps_set (i := 5) sc__law_draw.nd rfl (Or.inl rfl) (pe_op op_add (pe_op op_add (pe_op op_mod (pe_callTy call_int1 (by rfl) T.z_int (by decide +kernel) (pa_cons (pv 4) pa_nil)) pe_int) (pe_op op_mul pe_int (pv 2))) pe_int))
      (pss_cons (ps_dput hu (pv 0) pe_str (pe_op op_mod (pe_callTy call_int1 (by rfl) T.z_int (by decide +kernel) (pa_cons (pe_op op_add (pe_op op_pow (pv 5) pe_int) (pe_op op_mul (pe_op op_mul (pe_op op_mul pe_int (pv 2)) (pv 2)) (pv 5))) pa_nil)) (pe_op op_add (pe_op op_pow pe_int pe_int) pe_int)) rfl)
      (pss_one (ps_if (PW.pt (pw_and (pt_cmpR op_ge (pv 4) (pe_op op_pow pe_int pe_int) (nomark _)) (pw_and1 (pt_cmpR op_lt (pv 2) (pv 3) (nomark _))))) (pss_one (ps_dput hu (pv 0) pe_str (pe_op op_sub (pv 4) (pe_op op_pow pe_int pe_int)) rfl)) pss_nil)))))) pss_nil)
      (pss_cons (ps_asg (pe_tup (pa_cons (pe_op op_mod (pe_callTy call_int1 (by rfl) T.z_int (by decide +kernel) (pa_cons (pe_dget hu (pv 0) pe_str (fun _ _ => rfl)) pa_nil)) (pv 1)) (pa_cons (pe_op op_fdivW (pe_dget hu (pv 0) pe_str (fun _ _ => rfl)) (pv 1)) pa_nil))) (pg_tup (by rfl) (pgs_cons (pg_name (i := 6) sc__law_draw.nd rfl (Or.inl rfl)) (pgs_cons (pg_sub (pv 0) pe_str (set_dict hu)) pgs_nil))))
      (pss_one (ps_ret (pv 6))))), ?_⟩
    obtain ⟨ns, z, r, h1, h2, h3, h4, h5, h6, h7⟩ := hT
    obtain ⟨zn, rfl⟩ := Int.eq_ofNat_of_zero_le h5
    have gR : ∀ {H1 : Hp} {z1 r1 : Int}, H1 p = some (.dK (tapeD c z1 r1)) → DGet H1 p (.str "rest") (some (.int r1)) := fun e => DGet.k (k := Sum.inr "rest") e
    have gA : ∀ {H1 : Hp} {z1 r1 : Int}, H1 p = some (.dK (tapeD c z1 r1)) → DGet H1 p (.str "at") (some (.int z1)) := fun e => DGet.k (k := Sum.inr "at") e
    have gC : ∀ {H1 : Hp} {z1 r1 : Int}, H1 p = some (.dK (tapeD c z1 r1)) → DGet H1 p (.str "cells") (some (.ref c)) := fun e => DGet.k (k := Sum.inr "cells") e
    have npc : c ≠ p := by rintro rfl; rw [h1] at h2; cases h2
    have m0 := hm.1
    refine ⟨_, rfl, p, _, rfl, gR h1, _, rfl, _, _, rfl, rfl, _, rfl, joinU (fun σ H1 => ∃ (o2 o3 o4 o5 o6 : Option V) (z1 r1 : Int), σ = [some (.ref p), some (.int m), o2, o3, o4, o5, o6] ∧ H1 p = some (.dK (tapeD c z1 r1)) ∧ SameBut p H H1 ∧ 0 ≤ z1 ∧ z1 ≤ b + 1 ∧ 0 ≤ r1) ?_ ?_ ?_⟩
    · intro _ nx hnx
      refine ⟨_, rfl, p, _, rfl, gA h1, _, rfl, p, _, rfl, gC h1, c, _, rfl, .inl (SqL.of h2), _, _, rfl, ?_⟩
      have hlt : zn % ns.length < ns.length := Nat.mod_lt _ (by omega)
      refine ⟨_, rfl, p, _, rfl, gC h1, _, rfl, .inl ⟨_, rfl, _, rfl, iC (by rw [List.length_map]; omega) (v := .int ((zn % ns.length : Nat) : Int)) (by rw [List.length_map]; exact congrArg V.int (mod_nat _ _)) ⟨c, _, _, _, rfl, rfl, SqL.of h2, atI_nat (sqT_at hlt), ?_⟩⟩⟩
      refine ⟨_, rfl, _, _, rfl, rfl, Nat.le_of_ble_eq_true rfl, fun t ht => ?_⟩
      generalize ns.getD (zn % ns.length) 0 = cell
      have s1 := same_upd (o := .tup [.int cell, .int ((zn : Int) + 1)]) ht
      refine ⟨t, _, rfl, SqT.of upd_same, rfl, _, _, rfl, _, _, rfl, _, rfl, p, _, rfl, DPut.k (k := Sum.inr "at") (s1 _ _ h1) (small1000 (by show 3 ≤ 1000; decide)), rfl, ?_⟩
      rw [tape_putA]
      obtain ⟨mx, hmx⟩ : ∃ mx, mx = cell % 2305843009213693907 + 70001 * (zn : Int) + 20011 := ⟨_, rfl⟩
      have hm1 := Int.emod_nonneg cell (show (2305843009213693907 : Int) ≠ 0 by decide)
      have hm2 := Int.emod_lt_of_pos cell (show (0 : Int) < 2305843009213693907 by decide)
      have hmxB : 0 ≤ mx ∧ mx < 2 ^ 63 := by omega
      refine ⟨_, rfl, .inl ⟨_, rfl, _, _, rfl, rfl, (show (0 : Int) < 2305843009213693907 by decide), _, rfl, _, _, rfl, rfl, .inl ⟨by decide, by decide⟩, _, _, rfl, rfl, tcI (i0 (v := .int mx) (congrArg V.int hmx.symm) ?_)⟩⟩
      have e2 : (upd (upd H t (.tup [.int cell, .int ((zn : Int) + 1)])) p (.dK (tapeD c ((zn : Int) + 1) r))) p = some (.dK (tapeD c ((zn : Int) + 1) r)) := upd_same
      have sb2 : SameBut p H (upd (upd H t (.tup [.int cell, .int ((zn : Int) + 1)])) p (.dK (tapeD c ((zn : Int) + 1) r))) := fun b2 o hne e => by rw [upd_ne hne]; exact s1 _ _ e
      refine ⟨_, rfl, _, _, rfl, rfl, ⟨by decide, by decide, by omega⟩, _, rfl, _, _, rfl, rfl, .inl ⟨by decide, by decide⟩, _, rfl, _, _, rfl, rfl, .inr ⟨by omega, by omega⟩, _, rfl, _, _, rfl, rfl, .inr ⟨by omega, by omega⟩, _, _, rfl, rfl, .inl ⟨_, rfl, _, _, rfl, rfl, ⟨by decide, by decide, by decide⟩, _, _, rfl, rfl, _, _, rfl, rfl, (show (0 : Int) < 10 ^ 47 + 9 by decide), _, rfl, p, _, rfl, DPut.k (k := Sum.inr "rest") e2 (small1000 (by show 3 ≤ 1000; decide)), ?_⟩⟩
      rw [tape_putR]
      have fin : ∀ (r1 : Int) (H3 : Hp), H3 p = some (.dK (tapeD c ((zn : Int) + 1) r1)) → SameBut p H H3 → 0 ≤ r1 → nx [some (.ref p), some (.int m), some (.int (zn : Int)), some (.int ((ns.map V.int).length : Int)), some (.int cell), some (.int mx), none] H3 := fun r1 H3 e sb hr => hnx _ _ ⟨_, _, _, _, _, _, _, rfl, e, sb, by omega, by omega, hr⟩
      have hR0 : (0 : Int) ≤ (mx ^ Int.toNat 11 + 91 * (zn : Int) * (zn : Int) * mx) % (10 ^ Int.toNat 47 + 9) := Int.emod_nonneg _ (show (10 : Int) ^ 47 + 9 ≠ 0 by decide)
      have stay := fin _ (upd (upd (upd H t (.tup [.int cell, .int ((zn : Int) + 1)])) p (.dK (tapeD c ((zn : Int) + 1) r))) p (.dK (tapeD c ((zn : Int) + 1) ((mx ^ Int.toNat 11 + 91 * (zn : Int) * (zn : Int) * mx) % (10 ^ Int.toNat 47 + 9))))) upd_same (fun b2 o hne e => by rw [upd_ne hne]; exact sb2 _ _ hne e) hR0
      refine ⟨_, rfl, _, _, rfl, rfl, ⟨by decide, by decide, by decide⟩, _, _, rfl, rfl, _, rfl, ite2 (fun hc1 => ⟨_, rfl, _, rfl, _, _, rfl, rfl, _, rfl, ite2 (fun _ => ?_) fun _ => stay⟩) fun hc1 => ifF rfl stay⟩
      have hc2 : (10 : Int) ^ Int.toNat 18 ≤ cell := of_decide_eq_true hc1
      refine ⟨_, rfl, _, _, rfl, rfl, ⟨by decide, by decide, by decide⟩, _, _, rfl, rfl, _, rfl, p, _, rfl, DPut.k (k := Sum.inr "rest") upd_same (small1000 (by show 3 ≤ 1000; decide)), ?_⟩
      rw [tape_putR]
      exact fin _ _ upd_same (fun b2 o hne e => by rw [upd_ne hne, upd_ne hne]; exact sb2 _ _ hne e) (by omega)
    · intro _
      exact ⟨_, _, _, _, _, _, _, rfl, h1, fun _ _ _ e => e, h5, by omega, h7⟩
    · rintro σ H1 ⟨o2, o3, o4, o5, o6, z1, r1, rfl, e1, sb, hz1, hz2, hr1⟩
      refine ⟨_, rfl, p, _, rfl, gR e1, .inl ⟨_, rfl, _, rfl, _, _, rfl, rfl, m0, _, rfl, p, _, rfl, gR e1, _, rfl, _, _, rfl, rfl, hm.div, Nat.le_of_ble_eq_true rfl, fun t ht => ?_⟩⟩
      have s1 := same_upd (o := .tup [.int (r1 % m), .int (r1 / m)]) ht
      refine ⟨t, _, rfl, SqT.of upd_same, rfl, _, _, rfl, _, _, rfl, _, rfl, p, _, rfl, DPut.k (k := Sum.inr "rest") (s1 _ _ e1) (small1000 (by show 3 ≤ 1000; decide)), rfl, ?_⟩
      rw [tape_putR]
      refine ⟨_, rfl, k _ _ (Int.emod_nonneg _ (by omega)) (Int.emod_lt_of_pos _ m0) (fun b2 o hne e => by rw [upd_ne hne]; exact s1 _ _ (sb _ _ hne e)) ⟨ns, z1, _, upd_same, (by rw [upd_ne npc]; exact s1 _ _ (sb _ _ npc h2)), h3, h4, hz1, hz2, Int.ediv_nonneg hr1 (by omega)⟩⟩
end
end R4
set_option Elab.async false
set_option linter.all false
set_option maxRecDepth 100000
set_option maxHeartbeats 4000000
namespace R4
open PySem L2 PySem.GW
open RM (Rn)
section
variable {w : World} {K : PySem.W.Frag} {mg : Str → Option Value} {base : Heap}

theorem foldl_size (a : Array Nat) : ∀ (m : Nat) (acc : Array Nat), ((List.replicate m a).foldl (· ++ ·) acc).size = acc.size + m * a.size
  | 0, acc => by simp
  | m + 1, acc => by
    rw [List.replicate_succ, List.foldl_cons, foldl_size a m, Array.size_append, Nat.succ_mul]
    omega
/-- a text written n times -/
def strRep (x : Str) (n : Int) : Str := if n < 1 then Str.empty else if (n == 1 || x.length == 0) = true then x else ⟨(List.replicate n.toNat x.cps).foldl (· ++ ·) #[]⟩
theorem op_mul_str {X : Cx} : OpR X (binaryOp .Mult) (fun x y H Q => ∃ a n, x = .str a ∧ y = .int n ∧ 0 ≤ n ∧ n ≤ 1000 ∧ a.length ≤ 1000 ∧ Q (.str (strRep a n)) H) := by
  intro pins s σ H x y v u Q I rx ry h
  obtain ⟨a, n, rfl, rfl, h0, h1, hz, q⟩ := h
  obtain ⟨t, rfl⟩ := rx
  obtain ⟨t', rfl⟩ := ry
  have hsz : a.length * n.toNat ≤ 1000000 := Nat.mul_le_mul hz (show n.toNat ≤ 1000 by omega)
  refine PySem.P.mul_str (by rw [decide_eq_false (by omega), decide_eq_false (by omega)]; rfl) (fun h2 h3 => ?_) (fun h2 h3 => ?_) ?_
  · have h4 : (1001 : Int) ≤ (2 ^ 63 - 1) / n := by
      rw [Int.le_ediv_iff_mul_le (by omega)]
      omega
    omega
  · unfold Builtin.Str.tooLong
    rw [decide_eq_false]
    rw [sizeLine_eq]
    omega
  · unfold strRep at q
    by_cases c1 : n < 1
    · rw [if_pos c1] at q ⊢
      exact ⟨by decide, .str Str.empty, H, I.tok _, ⟨_, rfl⟩, q⟩
    · rw [if_neg c1] at q ⊢
      by_cases c2 : (n == 1 || a.length == 0) = true
      · rw [if_pos c2] at q ⊢
        exact ⟨.str a, H, I, ⟨_, rfl⟩, q⟩
      · rw [if_neg c2] at q ⊢
        refine ⟨?_, .str _, H, I.tok _, ⟨_, rfl⟩, q⟩
        show ((List.replicate n.toNat a.cps).foldl (· ++ ·) #[]).size ≤ sizeLine
        rw [foldl_size, sizeLine_eq]
        have e : n.toNat * a.cps.size ≤ 1000000 := by rw [Nat.mul_comm]; exact hsz
        simp only [Array.size_empty]
        omega
theorem foldl_tl (a : Array Nat) : ∀ (m : Nat) (acc : Array Nat), ((List.replicate m a).foldl (· ++ ·) acc).toList = acc.toList ++ (List.replicate m a.toList).flatten
  | 0, acc => by simp
  | m + 1, acc => by
    rw [List.replicate_succ, List.foldl_cons, foldl_tl a m, Array.toList_append, List.replicate_succ, List.flatten_cons, List.append_assoc]
theorem noughts (n : Nat) : strRep ("0" : Str) ((n : Nat) : Int) = SX.S (List.replicate n 48) := by
  unfold strRep
  by_cases c1 : ((n : Nat) : Int) < 1
  · rw [if_pos c1]
    have e : n = 0 := by omega
    subst e
    rfl
  · rw [if_neg c1]
    by_cases c2 : (((n : Nat) : Int) == 1 || (("0" : Str).length == 0)) = true
    · rw [if_pos c2]
      have e : n = 1 := by
        rw [Bool.or_eq_true] at c2
        rcases c2 with c2 | c2
        · have := beq_iff_eq.mp c2; omega
        · exact absurd c2 (by decide)
      subst e
      rfl
    · rw [if_neg c2]
      refine TL.ext_tl ?_
      show ((List.replicate ((n : Nat) : Int).toNat _).foldl (· ++ ·) #[]).toList = (List.replicate n 48).toArray.toList
      rw [foldl_tl, Int.toNat_natCast]
      show [] ++ (List.replicate n [48]).flatten = _
      rw [List.nil_append]
      clear c1 c2
      induction n with
      | zero => rfl
      | succ n ih => rw [List.replicate_succ, List.flatten_cons, ih, List.replicate_succ]; rfl
theorem ten_val : ∀ (n a : Nat), (List.replicate n 48).foldl (fun acc c => acc * 10 + (c - 48)) a = a * 10 ^ n
  | 0, a => by simp
  | n + 1, a => by
    rw [List.replicate_succ, List.foldl_cons, ten_val n, Nat.pow_succ]
    show (a * 10 + (48 - 48)) * 10 ^ n = _
    rw [Nat.sub_self, Nat.add_zero, Nat.mul_assoc, Nat.mul_comm 10]
theorem ten_text (n : Nat) (h : n ≤ 600) : PySem.intText? (("1" : Str) ++ strRep ("0" : Str) ((n : Nat) : Int)) = some ((10 ^ n : Nat) : Int) ∧ (("1" : Str) ++ strRep ("0" : Str) ((n : Nat) : Int)).length ≤ 640 := by
  have e : ("1" : Str) ++ strRep ("0" : Str) ((n : Nat) : Int) = SX.S (49 :: List.replicate n 48) := by
    rw [noughts]
    refine TL.ext_tl ?_
    show (("1" : Str).cps ++ (List.replicate n 48).toArray).toList = (49 :: List.replicate n 48)
    rw [Array.toList_append]
    rfl
  rw [e]
  refine ⟨?_, ?_⟩
  · rw [SX.int_S ?_ (by simp) (by rw [List.length_cons, List.length_replicate]; omega)]
    · unfold NumText.digitsVal
      rw [List.foldl_cons, ten_val]
      show some (((0 * 10 + (49 - 48)) * 10 ^ n : Nat) : Int) = _
      rw [show 0 * 10 + (49 - 48) = 1 from rfl, Nat.one_mul]
    · rw [List.all_cons]
      refine Bool.and_eq_true_iff.mpr ⟨rfl, List.all_eq_true.mpr fun c hc => ?_⟩
      rw [List.eq_of_mem_replicate hc]
      rfl
  · show (49 :: List.replicate n 48).toArray.size ≤ 640
    rw [List.size_toArray, List.length_cons, List.length_replicate]
    omega


theorem lim_top : Lim (10 ^ 310) := ⟨by decide +kernel, by decide +kernel⟩
theorem lim_le {m k : Int} (h : Lim k) (h0 : 0 < m) (h1 : m ≤ k) : Lim m := ⟨h0, Nat.lt_of_le_of_lt (show m.natAbs ≤ k.natAbs by omega) h.2⟩
theorem lim_small {m : Int} (h0 : 0 < m) (h1 : m ≤ 1000000) : Lim m := lim_le lim_top h0 (Int.le_trans h1 (by decide +kernel))
/-- what stays when the tape goes on -/
theorem TapeOk.dict {H : Hp} {p c : Addr} {b : Nat} (h : TapeOk H p c b) : ∃ k, H p = some (.dK k) := by
  obtain ⟨ns, z, r, h1, _⟩ := h
  exact ⟨_, h1⟩
theorem SameBut.sqL {H H' : Hp} {p l : Addr} {xs : List V} {k : List (Key × V)} (s : SameBut p H H') (hp : H p = some (.dK k)) (h : SqL K H l xs) : SqL K H' l xs := by
  rcases h with (h | ⟨o, h⟩) | h
  · exact .inl (.inl (s _ _ (by rintro rfl; rw [hp] at h; cases h) h))
  · exact .inl (.inr ⟨o, s _ _ (by rintro rfl; rw [hp] at h; cases h) h⟩)
  · exact .inr h
theorem SameBut.sqT {H H' : Hp} {p l : Addr} {xs : List V} {k : List (Key × V)} (s : SameBut p H H') (hp : H p = some (.dK k)) (h : SqT K H l xs) : SqT K H' l xs := by
  rcases h with (h | ⟨o, h⟩) | h
  · exact .inl (.inl (s _ _ (by rintro rfl; rw [hp] at h; cases h) h))
  · exact .inl (.inr ⟨o, s _ _ (by rintro rfl; rw [hp] at h; cases h) h⟩)
  · exact .inr h
theorem SameBut.pairs {H H' : Hp} {p : Addr} {vs : List V} {rs : List Rn} {k : List (Key × V)} (s : SameBut p H H') (hp : H p = some (.dK k)) (h : Pairs K H vs rs) : Pairs K H' vs rs := Paired.mapP h fun _ _ ⟨a, w, e, h1, h2⟩ => ⟨a, w, e, s.sqT hp h1, s.sqT hp h2⟩
theorem SameBut.row {H H' : Hp} {p q : Addr} {l : List Int} {n : Nat} {k : List (Key × V)} (s : SameBut p H H') (hp : H p = some (.dK k)) (h : RowOf K H q l n) : RowOf K H' q l n := by
  obtain ⟨ss, ⟨dx, T0, vs, h1, h2, h3⟩, h4⟩ := h
  exact ⟨ss, ⟨dx, T0, vs, s _ _ (by rintro rfl; rw [hp] at h1; cases h1) h1, s.sqT hp h2, s.pairs hp h3⟩, h4⟩
theorem SameBut.trans {H1 H2 H3 : Hp} {p : Addr} (a : SameBut p H1 H2) (b : SameBut p H2 H3) : SameBut p H1 H3 := fun q o h e => b q o h (a q o h e)
theorem Same.but {H H' : Hp} (p : Addr) (s : Same H H') : SameBut p H H' := fun b o _ e => s b o e
def spTen : Sp := fun vs H Q _ => ∃ n : Nat, vs = [.int (n : Int)] ∧ n ≤ 600 ∧ Q (.int ((10 ^ n : Nat) : Int)) H
def spIs : Sp := fun vs H Q _ => ∃ a b : Bool, vs = [.bl a, .bl b] ∧ Q (.bl (decide (a = b))) H
def spPick (K : PySem.W.Frag) : Sp := fun vs H Q _ => ∃ (p c l : Addr) (b : Nat) (ns : List Int), vs = [.ref p, .ref l] ∧ TapeOk H p c b ∧ b ≤ 1000000000 ∧ SqL K H l (ns.map V.int) ∧ 1 ≤ ns.length ∧ ns.length ≤ 1000 ∧ ∀ x H', x ∈ ns → SameBut p H H' → TapeOk H' p c (b + 1) → Q (.int x) H'
def spGreat : Sp := fun vs H Q _ => ∃ (p c : Addr) (b : Nat) (cap : Nat), vs = [.ref p, .int (cap : Int)] ∧ TapeOk H p c b ∧ b ≤ 100000000 ∧ Lim ((cap : Int) + 1) ∧ ∀ (x : Nat) H', x ≤ cap → SameBut p H H' → TapeOk H' p c (b + 5) → Q (.int (x : Int)) H'

theorem ok__law_ten (T : Top K mg) : FnOk PW w K mg base CX0 1 (fa K "_law_ten") (fdOf K (fa K "_law_ten")) ["_law_figures"] spTen := by
  refine T.F__law_ten.ok sc__law_ten (fun vs H Q E h => ?_) (fun cdv A outer s H vs Q E hr h => ?_)
  · obtain ⟨n, rfl, _hn, _k⟩ := h
    rfl
  · obtain ⟨n, rfl, hn, k⟩ := h
    have hu := hu_of hr
    refine ⟨_, (pss_one (ps_ret (pe_callTy call_int_str (by rfl) T.z_int (by decide +kernel) (pa_cons (pe_op op_add_str pe_str (pe_op op_mul_str pe_str (pv 0))) pa_nil)))), ?_⟩
    obtain ⟨e1, e2⟩ := ten_text n hn
    have e3 : ("1" : Str).length + (strRep ("0" : Str) ((n : Nat) : Int)).length ≤ sizeLine := by
      have e4 : (("1" : Str) ++ strRep ("0" : Str) ((n : Nat) : Int)).length = ("1" : Str).length + (strRep ("0" : Str) ((n : Nat) : Int)).length := Array.size_append
      rw [← e4, sizeLine_eq]
      omega
    exact ⟨_, rfl, _, _, rfl, rfl, by omega, by omega, by decide, _, _, rfl, rfl, e3, _, _, rfl, e1, e2, k⟩
theorem ok__law_is (T : Top K mg) : FnOk PW w K mg base CX0 1 (fa K "_law_is") (fdOf K (fa K "_law_is")) ["_law_value", "_law_truth"] spIs := by
  refine T.F__law_is.ok sc__law_is (fun vs H Q E h => ?_) (fun cdv A outer s H vs Q E hr h => ?_)
  · obtain ⟨a, b, rfl, _k⟩ := h
    rfl
  · obtain ⟨a, b, rfl, k⟩ := h
    have hu := hu_of hr
    refine ⟨_, (pss_one (ps_ret (pe_ifExp (pt_val (pv 1)) (pe_cmpR op_is_bl (pv 0) pe_bl (nomark _)) (pe_cmpR op_is_bl (pv 0) pe_bl (nomark _))))), ?_⟩
    refine ⟨_, rfl, _, rfl, ?_⟩
    cases b with
    | true => exact iteT ⟨_, rfl, _, _, rfl, rfl, k⟩
    | false => exact iteF ⟨_, rfl, _, _, rfl, rfl, k⟩
theorem ok__law_pick (T : Top K mg) : FnOk PW w K mg base CX0 2 (fa K "_law_pick") (fdOf K (fa K "_law_pick")) ["_law_tape", "_law_some"] (spPick K) := by
  refine T.F__law_pick.ok sc__law_pick (fun vs H Q E h => ?_) (fun cdv A outer s H vs Q E hr h => ?_)
  · obtain ⟨p, c, l, b, ns, rfl, _hT, _hb, _hS, _h1, _h2, _k⟩ := h
    rfl
  · obtain ⟨p, c, l, b, ns, rfl, hT, hb, hS, h1, h2, k⟩ := h
    have hu := hu_of hr
    refine ⟨_, (pss_one (ps_ret (pe_ix ix_list (pv 1) (pe_call (ok__law_draw T) (hr.mono (by decide)) rfl T.g__law_draw T.F__law_draw.kp T.b__law_draw .nil pass0 (pa_cons (pv 0) (pa_cons (pe_callB call_len_seq (by rfl) T.z_len (by decide +kernel) (pa_cons (pv 1) pa_nil)) pa_nil))) (fun _ _ => rfl)))), ?_⟩
    obtain ⟨kd, hd⟩ := hT.dict
    have hl0 : ((ns.map V.int).length : Int) = ns.length := by rw [List.length_map]
    refine ⟨_, rfl, _, rfl, _, rfl, l, _, rfl, .inl hS, p, c, b, _, rfl, hT, hb, lim_small (by omega) (by omega), fun x H1 hx0 hx1 s1 t1 => ?_⟩
    obtain ⟨xn, rfl⟩ := Int.eq_ofNat_of_zero_le hx0
    have hxl : xn < ns.length := by omega
    exact ⟨l, _, _, _, rfl, rfl, s1.sqL hd hS, atI_nat (sqT_at hxl), k _ _ (by rw [List.getD_eq_getElem?_getD, List.getElem?_eq_getElem hxl]; exact List.getElem_mem hxl) s1 t1⟩
end
end R4
set_option Elab.async false
set_option linter.all false
set_option maxRecDepth 100000
set_option maxHeartbeats 4000000
namespace R4
open PySem L2 PySem.GW
open RM (Rn)
section
variable {w : World} {K : PySem.W.Frag} {mg : Str → Option Value} {base : Heap}

def asgVal : Stmt → Expr
  | .Assign _ e _ => e
  | .Return (some e) _ => e
  | s => .Constant .none 0 ⟨0, 0, 0, 0⟩
def compSc : Expr → Scope
  | .ListComp _ _ sc _ => sc
  | _ => ⟨.function, [], false, false, []⟩
abbrev scS1 : Scope := compSc (asgVal ((defBody s__law_stretches).getD 0 (.Pass ⟨0, 0, 0, 0⟩)))
theorem but_fresh {H H' : Hp} {p D : Addr} {k : List (Key × V)} (s : SameBut p H H') (hp : H' p = some (.dK k)) (h : H' D = none) : H D = none := by
  cases hh : H D with
  | none => rfl
  | some o =>
    by_cases e : D = p
    · rw [e, hp] at h; cases h
    · rw [s _ _ e hh] at h; cases h
theorem but_at {H H2 : Hp} {p D : Addr} {o : HO} (hD : H D = none) (s : SameBut p H H2) : SameBut p H (upd H2 D o) := fun b u n e => by rw [upd_ne (ne_of_none e hD)]; exact s b u n e
/-- stretches as the law makes them -/
def Wd4 (ss : List Rn) : Prop := ∀ r ∈ ss, 1 ≤ r.1.length ∧ r.1.length ≤ 4 ∧ (∀ x ∈ r.1, 0 ≤ x ∧ x < 4) ∧ r.2 ≤ 3
def spPickV (K : PySem.W.Frag) : Sp := fun vs H Q _ => ∃ (p c l : Addr) (b : Nat) (xs : List V), vs = [.ref p, .ref l] ∧ TapeOk H p c b ∧ b ≤ 1000000000 ∧ SqL K H l xs ∧ 1 ≤ xs.length ∧ xs.length ≤ 1000 ∧ ∀ (i : Nat) (x : V) (H' : Hp), xs[i]? = some x → SameBut p H H' → TapeOk H' p c (b + 1) → Q x H'
def spEqT (K : PySem.W.Frag) : Sp := fun vs H Q _ => ∃ (v : V) (t : Addr) (xs : List V), vs = [v, .ref t] ∧ SqT K H t xs ∧ Q (.bl false) H
def spStrets (K : PySem.W.Frag) : Sp := fun vs H Q _ => ∃ (p c : Addr) (b : Nat), vs = [.ref p] ∧ TapeOk H p c b ∧ b ≤ 10000000 ∧ ∀ a ss H', SameBut p H H' → TapeOk H' p c (b + 100) → H a = none → RunsL K H' a ss → ss.length ≤ 6 → Wd4 ss → Q (.ref a) H'
def spSpell (K : PySem.W.Frag) : Sp := fun vs H Q _ => ∃ (a : Addr) (xs : List V) (ss : List Rn), vs = [.ref a] ∧ Sq K H a xs ∧ Pairs K H xs ss ∧ Fit ss ∧ (RM.flatS ss).length ≤ 1000 ∧ ∀ q H', Same H H' → SqT K H' q ((RM.flatS ss).map V.int) → Q (.ref q) H'

theorem okV__law_pick (T : Top K mg) : FnOk PW w K mg base CX0 2 (fa K "_law_pick") (fdOf K (fa K "_law_pick")) ["_law_tape", "_law_some"] (spPickV K) := by
  refine T.F__law_pick.ok sc__law_pick (fun vs H Q E h => ?_) (fun cdv A outer s H vs Q E hr h => ?_)
  · obtain ⟨p, c, l, b, xs, rfl, _hT, _hb, _hS, _h1, _h2, _k⟩ := h
    rfl
  · obtain ⟨p, c, l, b, xs, rfl, hT, hb, hS, h1, h2, k⟩ := h
    have hu := hu_of hr
    refine ⟨_, (pss_one (ps_ret (pe_ix ix_list (pv 1) (pe_call (ok__law_draw T) (hr.mono (by decide)) rfl T.g__law_draw T.F__law_draw.kp T.b__law_draw .nil pass0 (pa_cons (pv 0) (pa_cons (pe_callB call_len_seq (by rfl) T.z_len (by decide +kernel) (pa_cons (pv 1) pa_nil)) pa_nil))) (fun _ _ => rfl)))), ?_⟩
    obtain ⟨kd, hd⟩ := hT.dict
    refine ⟨_, rfl, _, rfl, _, rfl, l, _, rfl, .inl hS, p, c, b, _, rfl, hT, hb, lim_small (by omega) (by omega), fun x H1 hx0 hx1 s1 t1 => ?_⟩
    obtain ⟨xn, rfl⟩ := Int.eq_ofNat_of_zero_le hx0
    have hxl : xn < xs.length := by omega
    have e1 : xs[xn]? = some (xs[xn]'hxl) := List.getElem?_eq_getElem hxl
    exact ⟨l, _, _, _, rfl, rfl, s1.sqL hd hS, atI_nat e1, k _ _ _ e1 s1 t1⟩
theorem okT_eq (T : Top K mg) : FnOk PW w K mg base CX0 1 (me K "__eq__") (fdOf K (me K "__eq__")) ["self", "other"] (spEqT K) := by
  refine T.F_Row___eq__.ok sc_Row___eq__ (fun vs H Q E h => ?_) (fun cdv A outer s H vs Q E hr h => ?_)
  · obtain ⟨v, t, xs, rfl, _hS, _k⟩ := h
    rfl
  · obtain ⟨v, t, xs, rfl, hS, k⟩ := h
    have hu := hu_of hr
    refine ⟨_, (pss_cons (ps_if (pt_not (pt_val (pe_callB call_isi (by rfl) T.z_isinstance (by decide +kernel) (pa_cons (pv 1) (pa_cons (pe_glob (v := .ref (He.ga K "Row")) rfl T.g_Row rfl) pa_nil))))) (pss_one (ps_ret pe_bl)) pss_nil)
      (pss_cons ps_never
      (pss_cons ps_never
      (pss_one ps_never)))), ?_⟩
    exact ⟨_, rfl, _, _, _, _, false, rfl, .own _, ty_tup hS, T.k_tuple, _, rfl, iteT (tcI k)⟩
theorem ok__law_stretches (T : Top K mg) : FnOk PW w K mg base CX0 2 (fa K "_law_stretches") (fdOf K (fa K "_law_stretches")) ["_law_tape"] (spStrets K) := by
  refine T.F__law_stretches.ok sc__law_stretches (fun vs H Q E h => ?_) (fun cdv A outer s H vs Q E hr h => ?_)
  · obtain ⟨p, c, b, rfl, _hT, _hb, _k⟩ := h
    rfl
  · obtain ⟨p, c, b, rfl, hT, hb, k⟩ := h
    have hu := hu_of hr
    refine ⟨_, (pss_one (ps_ret (pe_lc (own := [("_law_k", 1)]) (te := tTup (tCons (tCB (rTupOf K) (tCons (tLc (iRng1 (tCons (tOp (rI0 fun i j => .int (i + j)) (tC (.int 1)) (tCall spDraw [] E0 (tCons (tVar 0) (tCons (tC (.int 4)) tNil)))) tNil)) (gName 2) tYes (tCall spDraw [] E0 (tCons (tVar 0) (tCons (tC (.int 4)) tNil))) [2]) tNil)) (tCons (tCall spDraw [] E0 (tCons (tVar 0) (tCons (tC (.int 4)) tNil))) tNil))) (g := gName 1) (by rfl) sc__law_stretches.nd (pi_range1 (by rfl) T.z_range (pa_cons (pe_call (ok__law_draw T) (hr.mono (by decide)) rfl T.g__law_draw T.F__law_draw.kp T.b__law_draw .nil pass0 (pa_cons (pv 0) (pa_cons pe_int pa_nil))) pa_nil)) (blkOk_by (own := [("_law_k", 1)]) (N := ["_law_tape", "_law_k", "_law_n"]) (sc := (defScope s__law_stretches)) (by decide +kernel)) (fun _ _ _ _ _ => (pg_name (i := 1) sc__law_stretches.nd rfl (Or.inl rfl))) (fun _ _ _ _ _ => pts_nil) (fun _ _ _ _ _ => (pe_tup (pa_cons (pe_callTy call_tuple_of (by rfl) T.z_tuple (by decide +kernel) (pa_cons (pe_lc (own := [("_law_n", 2)]) (te := tCall spDraw [] E0 (tCons (tVar 0) (tCons (tC (.int 4)) tNil))) (g := gName 2) (by rfl) sc__law_stretches.nd (pi_range1 (by rfl) T.z_range (pa_cons (pe_op op_add pe_int (pe_call (ok__law_draw T) (hr.mono (by decide)) rfl T.g__law_draw T.F__law_draw.kp T.b__law_draw .nil pass0 (pa_cons (pv 0) (pa_cons pe_int pa_nil)))) pa_nil)) (blkOk_by (own := [("_law_n", 2)]) (by rfl)) (fun _ _ _ _ _ => (pg_name (i := 2) sc__law_stretches.nd rfl (Or.inl rfl))) (fun _ _ _ _ _ => pts_nil) (fun _ _ _ _ _ => (pe_call (ok__law_draw T) (hr.mono (by decide)) rfl T.g__law_draw T.F__law_draw.kp T.b__law_draw .nil pass0 (pa_cons (pv 0) (pa_cons pe_int pa_nil))))) pa_nil)) (pa_cons (pe_call (ok__law_draw T) (hr.mono (by decide)) rfl T.g__law_draw T.F__law_draw.kp T.b__law_draw .nil pass0 (pa_cons (pv 0) (pa_cons pe_int pa_nil))) pa_nil))))))), ?_⟩
    refine ⟨_, rfl, p, c, b, 7, rfl, hT, by omega, lim_small (by decide) (by decide), fun x1 H1 a1 a2 s1 t1 => ⟨x1, rfl, by omega, by omega, fun D hD => ?_⟩⟩
    obtain ⟨kd1, hd1⟩ := t1.dict
    obtain ⟨nDp, nDc⟩ := t1.ne hD
    have hHD : H D = none := but_fresh s1 hd1 hD
    refine lc_range (lo := 0) (n := x1.toNat) (fun i H2 => SameBut p H H2 ∧ TapeOk H2 p c (b + 1 + i * 10) ∧ ∃ vs ss, H2 D = some (.lst vs) ∧ Pairs K H2 vs ss ∧ ss.length = i ∧ Wd4 ss)
      ⟨but_at hHD s1, t1.updL nDp nDc, _, [], upd_same, .nil, rfl, fun w hw => nomatch hw⟩ ?_ ?_
    · rintro i H2 hi ⟨sb2, t2, vs, ss, hD2, hws, hwl, hw4⟩
      obtain ⟨kd2, hd2⟩ := t2.dict
      refine ⟨rfl, ?_⟩
      refine ⟨_, rfl, p, c, b + 1 + i * 10, 4, rfl, t2, by omega, lim_small (by decide) (by decide), fun x2 H3 a3 a4 s3 t3 => ⟨_, _, rfl, rfl, 1 + x2, rfl, by omega, by omega, fun E2 hE => ?_⟩⟩
      obtain ⟨kd3, hd3⟩ := t3.dict
      obtain ⟨nEp, nEc⟩ := t3.ne hE
      have hD3 : H3 D = some (.lst vs) := s3 _ _ nDp hD2
      have nED : E2 ≠ D := fun e => by rw [e, hD3] at hE; cases hE
      refine lc_range (lo := 0) (n := (1 + x2).toNat) (fun j H4 => SameBut p H3 H4 ∧ TapeOk H4 p c (b + 2 + i * 10 + j) ∧ ∃ ns : List Int, H4 E2 = some (.lst (ns.map V.int)) ∧ ns.length = j ∧ ∀ x ∈ ns, 0 ≤ x ∧ x < 4)
        ⟨Same.but p (same_upd hE), (t3.updL nEp nEc).mono (by omega), [], upd_same, rfl, fun x hx => nomatch hx⟩ ?_ ?_
      · rintro j H4 hj ⟨sb4, t4, ns, hE4, hnl, hn4⟩
        obtain ⟨kd4, hd4⟩ := t4.dict
        refine ⟨rfl, ?_⟩
        refine ⟨_, rfl, p, c, b + 2 + i * 10 + j, 4, rfl, t4, by omega, lim_small (by omega) (by omega), fun x6 H6 a5 a6 s6 t6 => ?_⟩
        refine ⟨_, s6 _ _ nEp hE4, (by rw [List.length_map, sizeLine_eq]; omega), but_at hE (sb4.trans s6), (t6.updL nEp nEc).mono (by omega), ns ++ [x6], ?_, (by rw [List.length_append, hnl]; rfl), fun x hx => ?_⟩
        · rw [upd_same, List.map_append]; rfl
        · rcases List.mem_append.mp hx with h | h
          · exact hn4 x h
          · rw [List.mem_singleton.mp h]; omega
      · rintro H4 ⟨sb4, t4, ns, hE4, hnl, hn4⟩
        have hD4 : H4 D = some (.lst vs) := sb4 _ _ nDp hD3
        refine ⟨E2, _, rfl, .inl ⟨SqL.of hE4, fun q hq => ?_⟩⟩
        have sq := same_upd (o := .tup (ns.map V.int)) hq
        obtain ⟨kd5, hd5⟩ := (t4.same sq).dict
        refine ⟨_, rfl, p, c, b + 2 + i * 10 + (1 + x2).toNat, 4, rfl, t4.same sq, by omega, lim_small (by omega) (by omega), fun x7 H7 a7 a8 s7 t7 => ⟨Nat.le_of_ble_eq_true rfl, fun z hz => ?_⟩⟩
        obtain ⟨tn, rfl⟩ := Int.eq_ofNat_of_zero_le a7
        have sz := same_upd (o := .tup [.ref q, .int (tn : Int)]) hz
        have hq7 : SqT K H7 q (ns.map V.int) := s7.sqT hd5 (SqT.of upd_same)
        have hD7 := sz _ _ (s7 _ _ nDp (sq _ _ hD4))
        have sall : SameBut p H2 (upd H7 z (.tup [.ref q, .int (tn : Int)])) := s3.trans (sb4.trans ((Same.but p sq).trans (s7.trans (Same.but p sz))))
        refine ⟨vs, hD7, ?_, but_at hHD (sb2.trans sall), ((t7.same sz).updL nDp nDc).mono (by omega), _, ss ++ [(ns, tn)], upd_same, ?_, (by rw [List.length_append, hwl]; rfl), fun r hr => ?_⟩
        · rw [Paired.length hws, sizeLine_eq]; omega
        · exact Paired.append (Pairs.upd hD7 (sall.pairs hd2 hws)) ⟨z, q, rfl, sqT_upd hD7 (SqT.of upd_same), sqT_upd hD7 (Same.seqT sz hq7)⟩
        · rcases List.mem_append.mp hr with h | h
          · exact hw4 r h
          · rw [List.mem_singleton.mp h]
            exact ⟨by show 1 ≤ ns.length; omega, by show ns.length ≤ 4; omega, hn4, by show tn ≤ 3; omega⟩
    · rintro H2 ⟨sb2, t2, vs, ss, hD2, hws, hwl, hw4⟩
      exact k D ss H2 sb2 (t2.mono (by omega)) hHD ⟨vs, hD2, hws⟩ (by omega) hw4
theorem ok__law_spelled (T : Top K mg) : FnOk PW w K mg base CX0 1 (fa K "_law_spelled") (fdOf K (fa K "_law_spelled")) ["_law_stretches_here"] (spSpell K) := by
  refine T.F__law_spelled.ok sc__law_spelled (fun vs H Q E h => ?_) (fun cdv A outer s H vs Q E hr h => ?_)
  · obtain ⟨a, xs, ss, rfl, _hS, _hP, _hF, _hL, _k⟩ := h
    rfl
  · obtain ⟨a, xs, ss, rfl, hS, hP, hF, hL, k⟩ := h
    have hu := hu_of hr
    refine ⟨_, (pss_cons (ps_set (i := 1) sc__law_spelled.nd rfl (Or.inl rfl) (pe_tup pa_nil))
      (pss_cons (ps_for PassesOwn.never rfl (pi_or (pi_list (pv 0)) (pi_tup (pv 0))) (pg_tup (by rfl) (pgs_cons (pg_name (i := 2) sc__law_spelled.nd rfl (Or.inl rfl)) (pgs_cons (pg_name (i := 3) sc__law_spelled.nd rfl (Or.inl rfl)) pgs_nil))) (pss_one (ps_set (i := 1) sc__law_spelled.nd rfl (Or.inl rfl) (pe_op op_catA (pv 1) (pe_op op_repA (pe_callTy call_tuple_of (by rfl) T.z_tuple (by decide +kernel) (pa_cons (pv 2) pa_nil)) (pv 3))))))
      (pss_one (ps_ret (pv 1))))), ?_⟩
    have hle : xs.length = ss.length := Paired.length hP
    refine ⟨Nat.zero_le _, fun t0 ht0 => ?_⟩
    have s0 := same_upd (o := .tup []) ht0
    have step : ∀ (i : Nat) (r : Rn), ss[i]? = some r → ∀ (H3 : Hp) (q wd : Addr) (R : VK), SqT K H3 q ((RM.flatS (ss.take i)).map V.int) → SqT K H3 wd (r.1.map V.int) → (∀ q' H4, Same H3 H4 → SqT K H4 q' ((RM.flatS (ss.take (i + 1))).map V.int) → R (.ref q') H4) → rRepA K (.ref wd) (.int (r.2 : Int)) H3 (fun v H4 => rCatA K (.ref q) v H4 R) := by
      intro i r hr H3 q wd R h1 h2 k2
      have hst : RM.flatS (ss.take (i + 1)) = RM.flatS (ss.take i) ++ RM.rep r.1 (r.1.length * r.2) := by rw [take_at hr, RM.flatS_append, RM.flatS_one]
      have htot : (RM.flatS (ss.take i)).length + r.1.length * r.2 ≤ 1000 := by
        have e : RM.flatS ss = RM.flatS (ss.take (i + 1)) ++ RM.flatS (ss.drop (i + 1)) := by rw [← RM.flatS_append, List.take_append_drop]
        have e2 := congrArg List.length e
        rw [hst, List.length_append, List.length_append, RM.rep_length] at e2
        omega
      have hne : r.1 ≠ [] := (hF.2 r (List.mem_of_getElem? hr)).1
      have hwp : 0 < r.1.length := List.length_pos_iff.mpr hne
      have ht1 : r.2 ≤ r.1.length * r.2 := Nat.le_mul_of_pos_left _ hwp
      refine ⟨wd, _, _, rfl, rfl, h2, fun z => hne (List.map_eq_nil_iff.mp z), by omega, fun h2k => ⟨by omega, ?_⟩, fun p H4 s4 h4 => ?_⟩
      · have ht2 : r.1.length ≤ r.1.length * r.2 := Nat.le_mul_of_pos_right _ (by omega)
        rw [List.length_map]; omega
      · refine catA (Same.seqT s4 h1) h4 ?_ fun p2 H5 s5 h5 => k2 p2 H5 (s4.trans s5) ?_
        · rw [Int.toNat_natCast, map_flatten, List.length_map, List.length_map, RM.rep_length, sizeLine_eq]; omega
        · rw [hst, List.map_append]
          rw [Int.toNat_natCast, map_flatten] at h5
          exact h5
    rcases hS with hS | hS
    · have s2 := s0
      refine .inl ⟨_, rfl, a, rfl, ⟨_, s2.seq hS⟩, for_list (K := K) (a := a) (xs := xs) (fun i σ H3 => Same H H3 ∧ ∃ (q : Addr) (o2 o3 : Option V), σ = [some (.ref a), some (.ref q), o2, o3] ∧ SqT K H3 q ((RM.flatS (ss.take i)).map V.int)) ⟨s0, t0, _, _, rfl, SqT.of upd_same⟩ (fun i σ H3 _ ⟨s2, _⟩ => s2.seq hS) ?_ ?_⟩
      · rintro i x σ H3 hi ⟨s3, q, o2, o3, rfl, hq⟩
        obtain ⟨r, hr1, hp⟩ := paired_at hP hi
        obtain ⟨p1, wd, rfl, q1, q2⟩ := hp.same s3
        refine ⟨p1, _, rfl, q1, rfl, _, _, rfl, _, _, rfl, rfl, ?_⟩
        refine ⟨_, rfl, _, rfl, wd, _, rfl, .inr ⟨q2, ⟨_, rfl, step i r hr1 H3 q wd _ hq q2 fun q' H4 s4 h4 => ⟨s3.trans s4, q', _, _, rfl, h4⟩⟩⟩⟩
      · rintro σ H3 ⟨s3, q, o2, o3, rfl, hq⟩
        rw [hle, List.take_length] at hq
        exact ⟨_, rfl, k q H3 s3 hq⟩
    · have s2 := s0
      refine .inr ⟨_, rfl, a, rfl, ⟨_, Same.seqT s2 hS⟩, for_tup (K := K) (a := a) (xs := xs) (fun i σ H3 => Same H H3 ∧ ∃ (q : Addr) (o2 o3 : Option V), σ = [some (.ref a), some (.ref q), o2, o3] ∧ SqT K H3 q ((RM.flatS (ss.take i)).map V.int)) ⟨s0, t0, _, _, rfl, SqT.of upd_same⟩ (fun i σ H3 _ ⟨s2, _⟩ => Same.seqT s2 hS) ?_ ?_⟩
      · rintro i x σ H3 hi ⟨s3, q, o2, o3, rfl, hq⟩
        obtain ⟨r, hr1, hp⟩ := paired_at hP hi
        obtain ⟨p1, wd, rfl, q1, q2⟩ := hp.same s3
        refine ⟨p1, _, rfl, q1, rfl, _, _, rfl, _, _, rfl, rfl, ?_⟩
        refine ⟨_, rfl, _, rfl, wd, _, rfl, .inr ⟨q2, ⟨_, rfl, step i r hr1 H3 q wd _ hq q2 fun q' H4 s4 h4 => ⟨s3.trans s4, q', _, _, rfl, h4⟩⟩⟩⟩
      · rintro σ H3 ⟨s3, q, o2, o3, rfl, hq⟩
        rw [hle, List.take_length] at hq
        exact ⟨_, rfl, k q H3 s3 hq⟩
end
end R4
set_option Elab.async false
set_option linter.all false
set_option maxRecDepth 100000
set_option maxHeartbeats 4000000
namespace R4
open PySem L2 PySem.GW
open RM (Rn)
section
variable {w : World} {K : PySem.W.Frag} {mg : Str → Option Value} {base : Heap}
open LamX
/-- all but the tables and what stands at p stay -/
def ExtB (p : Addr) (H H' : Hp) : Prop := ∀ b o, b ≠ p → H b = some o → (∀ ps, o ≠ .tbl ps) → H' b = some o
theorem ExtB.trans {H H1 H2 : Hp} {p : Addr} (a : ExtB p H H1) (b : ExtB p H1 H2) : ExtB p H H2 := fun c o n h t => b c o n (a c o n h t) t
theorem ExtB.but {H H1 : Hp} {p : Addr} (a : SameBut p H H1) : ExtB p H H1 := fun c o n h _ => a c o n h
theorem ExtB.same {H H1 : Hp} (p : Addr) (a : Same H H1) : ExtB p H H1 := fun c o _ h _ => a c o h
theorem ExtB.ext {H H1 : Hp} (p : Addr) (a : ExtN H H1) : ExtB p H H1 := fun c o _ h t => a c o h t
section
variable {K : PySem.W.Frag} {H H' : Hp} {p : Addr}
theorem ExtB.sqL {l : Addr} {xs : List V} {k : List (Key × V)} (s : ExtB p H H') (hp : H p = some (.dK k)) (h : SqL K H l xs) : SqL K H' l xs := by
  rcases h with (h | ⟨o, h⟩) | h
  · exact .inl (.inl (s _ _ (fun e => by rw [e, hp] at h; cases h) h (fun ps z => by cases z)))
  · exact .inl (.inr ⟨o, s _ _ (fun e => by rw [e, hp] at h; cases h) h (fun ps z => by cases z)⟩)
  · exact .inr h
theorem ExtB.sqT {l : Addr} {xs : List V} {k : List (Key × V)} (s : ExtB p H H') (hp : H p = some (.dK k)) (h : SqT K H l xs) : SqT K H' l xs := by
  rcases h with (h | ⟨o, h⟩) | h
  · exact .inl (.inl (s _ _ (fun e => by rw [e, hp] at h; cases h) h (fun ps z => by cases z)))
  · exact .inl (.inr ⟨o, s _ _ (fun e => by rw [e, hp] at h; cases h) h (fun ps z => by cases z)⟩)
  · exact .inr h
theorem ExtB.pairs {vs : List V} {rs : List Rn} {k : List (Key × V)} (s : ExtB p H H') (hp : H p = some (.dK k)) (h : Pairs K H vs rs) : Pairs K H' vs rs := Paired.mapP h fun _ _ ⟨a, w, e, h1, h2⟩ => ⟨a, w, e, s.sqT hp h1, s.sqT hp h2⟩
theorem ExtB.runs {a : Addr} {rs : List Rn} {k : List (Key × V)} (s : ExtB p H H') (hp : H p = some (.dK k)) (h : RunsAt K H a rs) : RunsAt K H' a rs := by
  obtain ⟨xs, h1, h2⟩ := h
  exact ⟨xs, s.sqL hp h1, s.pairs hp h2⟩
theorem ExtB.row {q : Addr} {l : List Int} {n : Nat} {k : List (Key × V)} (s : ExtB p H H') (hp : H p = some (.dK k)) (h : RowOf K H q l n) : RowOf K H' q l n := by
  obtain ⟨ss, ⟨dx, T, vs, h1, h2, h3⟩, h4⟩ := h
  exact ⟨ss, ⟨dx, T, vs, s _ _ (fun e => by rw [e, hp] at h1; cases h1) h1 (fun ps z => by cases z), s.sqT hp h2, s.pairs hp h3⟩, h4⟩
theorem TapeOk.extN {c : Addr} {b : Nat} (e : ExtN H H') (h : TapeOk H p c b) : TapeOk H' p c b := by
  obtain ⟨ns, z, r, h1, h2, h3⟩ := h
  exact ⟨ns, z, r, e _ _ h1 (fun ps z => by cases z), e _ _ h2 (fun ps z => by cases z), h3⟩
theorem SameBut.runs {a : Addr} {rs : List Rn} {k : List (Key × V)} (s : SameBut p H H') (hp : H p = some (.dK k)) (h : RunsAt K H a rs) : RunsAt K H' a rs := (ExtB.but s).runs hp h
theorem Tabs.but {T : List (Addr × Str)} {k : List (Key × V)} (t : Tabs T H) (s : SameBut p H H') (hp : H p = some (.dK k)) : Tabs T H' := fun q hq => by
  obtain ⟨ps, h1, h2, h3⟩ := t q hq
  refine ⟨ps, s _ _ (fun e => by rw [e, hp] at h1; cases h1) h1, h2, fun pos cv hc => ?_⟩
  obtain ⟨c, e1, e2⟩ := h3 pos cv hc
  exact ⟨c, e1, s _ _ (fun e => by rw [e, hp] at e2; unfold CodeO at e2; cases e2) e2⟩
end

theorem noAt {P : Program} {K : PySem.W.Frag} {mg : Str → Option Value} {C fI : Addr} {params : Arguments} {scope : Scope} {l : List Fl} (I : ErrI P K mg C fI params scope l) (k : Nat) {f : Str} (h : (l.map (fun p => p.f))[k]? = some f) : PySem.W.findIn K (.ref C) f = some none := by
  rw [List.getElem?_map] at h
  cases e : l[k]? with
  | none => rw [e] at h; cases h
  | some p =>
    rw [e] at h
    cases h
    exact I.no p (List.mem_of_getElem? e)
theorem ErrG.xf {K : PySem.W.Frag} {C : Addr} (h : ErrG K C) : XfC K C := by
  obtain ⟨h1, h2, h3, h4⟩ := h
  exact ⟨h1, h2, h3, h4⟩

section
variable {H : Hp} {r q : Addr} {l m : List Int} {n : Nat} {Q : VK} {E : XK} {σ : St} {t : TA} {sp : Sp}
theorem m_at {mm : Str} {dvs : List V} (h : RowOf K H r l n) (hm : ∀ v : V, List.lookup mm [(("stretches" : Str), v)] = none) (k : t σ H fun vs H2 => sp (.ref r :: (vs ++ dvs)) H2 Q E) : ∃ a dx fs, V.ref r = .ref a ∧ H a = some (.ins (cR K) dx fs) ∧ List.lookup mm fs = none ∧ t σ H fun vs H2 => sp (.ref r :: (vs ++ dvs)) H2 Q E := by
  obtain ⟨dx, T0, e⟩ := h.ins
  exact ⟨r, dx, _, rfl, e, hm _, k⟩
theorem sp_total (h : RowOf K H r l n) (k : ∀ H', Same H H' → Q (.int (l.length : Int)) H') : spTotal K [.ref r] H Q E := by
  obtain ⟨ss, h1, h2, h3, rfl⟩ := h
  exact ⟨r, ss, rfl, h1, h2, k⟩
theorem m_total (h : RowOf K H r l n) (k : ∀ H', Same H H' → Q (.int (l.length : Int)) H') : ∃ a dx fs, V.ref r = .ref a ∧ H a = some (.ins (cR K) dx fs) ∧ List.lookup ("total" : Str) fs = none ∧ tNil σ H fun vs H2 => spTotal K (.ref r :: (vs ++ [])) H2 Q E0 :=
  m_at h (fun _ => rfl) (nilI (sp_total h k))
theorem r_eq (h1 : RowOf K H r l n) (h2 : RowOf K H q m n) (k : ∀ H', Same H H' → Q (.bl (decide (l = m))) H') : rOwnI (cR K) (spEqR K) (.ref r) (.ref q) H Q := by
  obtain ⟨dx, T0, e⟩ := h1.ins
  obtain ⟨dx', T0', e'⟩ := h2.ins
  exact ⟨r, dx, _, q, dx', _, rfl, rfl, e, e', r, q, l, m, n, rfl, h1, h2, k⟩
theorem r_add (h1 : RowOf K H r l n) (h2 : RowOf K H q m n) (hn : n ≤ 20000) (k : ∀ z H', Same H H' → H z = none → RowOf K H' z (l ++ m) (4 * n) → Q (.ref z) H') : rOwnI (cR K) (spAdd K) (.ref r) (.ref q) H Q := by
  obtain ⟨dx, T0, e⟩ := h1.ins
  obtain ⟨dx', T0', e'⟩ := h2.ins
  exact ⟨r, dx, _, q, dx', _, rfl, rfl, e, e', r, q, l, m, n, rfl, h1, .inl h2, hn, k⟩
theorem r_ne (h1 : RowOf K H r l n) (h2 : RowOf K H q m n) (k : ∀ H', Same H H' → Q (.bl (!decide (l = m))) H') : rNeI (cR K) (spEqR K) (.ref r) (.ref q) H Q := by
  obtain ⟨dx, T0, e⟩ := h1.ins
  obtain ⟨dx', T0', e'⟩ := h2.ins
  exact ⟨r, dx, _, q, dx', _, rfl, rfl, e, e', r, q, l, m, n, rfl, h1, h2, fun H' s' => ⟨_, rfl, k H' s'⟩⟩
theorem r_addT (h1 : RowOf K H r l n) (h2 : SqT K H q (m.map V.int)) (hm : m.length ≤ 100000) (hn : n ≤ 20000) (h0 : 2 ≤ n) (k : ∀ z H', Same H H' → H z = none → RowOf K H' z (l ++ m) (4 * n) → Q (.ref z) H') : rOwnT K (cR K) (spAdd K) (.ref r) (.ref q) H Q := by
  obtain ⟨dx, T0, e⟩ := h1.ins
  exact ⟨r, dx, _, q, _, rfl, rfl, e, h2, r, q, l, m, n, rfl, h1, .inr ⟨.inr h2, hm, h0⟩, hn, k⟩
end

theorem canInts : ∀ ns : List Int, PyData.canLayAll0 (ns.map PyData.int) = true
  | [] => rfl
  | n :: ns => by
    show (PyData.canLay0 (.int n) && PyData.canLayAll0 (ns.map PyData.int)) = true
    rw [canInts ns]
    rfl

theorem depInts : ∀ ns : List Int, PyData.depthAll (ns.map PyData.int) = 0
  | [] => rfl
  | n :: ns => by
    show max (PyData.depth (.int n)) (PyData.depthAll (ns.map PyData.int)) = 0
    rw [depInts ns]
    rfl

theorem shTup (ns : List Int) : SeqAt.shaped (.tuple (ns.map PyData.int)) = true := by
  have e1 : PyData.canLay0 (.tuple (ns.map PyData.int)) = true := canInts ns
  have e2 : PyData.depth (.tuple (ns.map PyData.int)) = 1 := by
    show PyData.depthAll (ns.map PyData.int) + 1 = 1
    rw [depInts ns]
  unfold SeqAt.shaped
  rw [e1, e2]
  rfl

theorem shLst (ns : List Int) : SeqAt.shaped (.list (ns.map PyData.int)) = true := by
  have e1 : PyData.canLay0 (.list (ns.map PyData.int)) = true := canInts ns
  have e2 : PyData.depth (.list (ns.map PyData.int)) = 1 := by
    show PyData.depthAll (ns.map PyData.int) + 1 = 1
    rw [depInts ns]
  unfold SeqAt.shaped
  rw [e1, e2]
  rfl

theorem ne_same {H : Hp} {x y : V} {d : PyData} {Q : VK} (h1 : Dp K H x d) (h2 : Dp K H y d) (sh : SeqAt.shaped d = true) (q : Q (.bl false) H) : rNeD K x y H Q := by
  refine ⟨d, d, h1, h2, sh, sh, ?_⟩
  rw [SeqAt.eqv_refl d (SeqAt.canLay_of_shaped sh)]
  exact q

theorem eq_same {H : Hp} {x y : V} {d : PyData} {Q : VK} (h1 : Dp K H x d) (h2 : Dp K H y d) (sh : SeqAt.shaped d = true) (q : Q (.bl true) H) : rEqD K x y H Q := by
  refine ⟨d, d, h1, h2, sh, sh, ?_⟩
  rw [SeqAt.eqv_refl d (SeqAt.canLay_of_shaped sh)]
  exact q
/-- two pairs of a text and a number -/

theorem shSI {x : Str} (i : Int) (h : PyData.canLay0 (.str x) = true) : SeqAt.shaped (.tuple [.str x, .int i]) = true := by
  have e1 : PyData.canLay0 (.tuple [.str x, .int i]) = true := by
    show (PyData.canLay0 (.str x) && (PyData.canLay0 (.int i) && true)) = true
    rw [h]
    rfl
  have e2 : PyData.depth (.tuple [.str x, .int i]) = 1 := rfl
  unfold SeqAt.shaped
  rw [e1, e2]
  rfl

theorem dpSI {H : Hp} {p : Addr} {x : Str} {i : Int} (h : H p = some (.tup [.str x, .int i])) : Dp K H (.ref p) (.tuple [.str x, .int i]) := .tup (SqT.of h) (.cons (.str x) (.cons (.int i) .nil))

theorem lcp_take : ∀ (l : List Int) (c : Nat), RM.lcp l (l.take c) = (l.take c).length
  | [], c => by simp [RM.lcp_nil_left]
  | _ :: _, 0 => rfl
  | x :: l, c + 1 => by
    show RM.lcp (x :: l) (x :: l.take c) = (x :: l.take c).length
    unfold RM.lcp
    rw [if_pos rfl, lcp_take l c]
    rfl

theorem if_no {c : L2.TT} {t : L2.TS} {D : Ends} {σ : St} {H : Hp} (P : Hp → Prop) (h : ∀ Q : Bool → Hp → Prop, (∀ H1, P H1 → Q false H1) → c σ H Q) (k : ∀ H1, P H1 → D.nx σ H1) : tIfS c t tNext D σ H := h _ fun H1 p => iteF (k H1 p)

theorem if_noS {c : L2.TT} {t u : L2.TS} {D : Ends} {σ : St} {H : Hp} (P : Hp → Prop) (h : ∀ Q : Bool → Hp → Prop, (∀ H1, P H1 → Q false H1) → c σ H Q) (k : ∀ H1, P H1 → u D σ H1) : tSeq (tIfS c t tNext) u D σ H := h _ fun H1 p => iteF (k H1 p)

theorem mk_row {H : Hp} {a x dx : Addr} {ss : List Rn} {R : Hp → Prop} (hx : H x = none) (hdx : H dx = none) (hne : dx ≠ x) (h : RunsAt K H a ss) (hs : ss.length ≤ 20) (hk : ∀ r ∈ ss, StrOk r) (k : ∀ H', Same H H' → RowOf K H' x (RM.flatS ss) ss.length → R H') :
    spInit K (.ref x :: ([.ref a] ++ [.bl true])) (upd (upd H dx (.own x)) x (.ins (cR K) dx [])) (fun v H2 => v = .non ∧ R H2) E0 := by
  have s0 : Same H (upd H dx (.own x)) := same_upd hdx
  have hx0 : upd H dx (.own x) x = none := by rw [upd_ne (Ne.symm hne)]; exact hx
  have s1 : Same H (upd (upd H dx (.own x)) x (.ins (cR K) dx [])) := s0.trans (same_upd hx0)
  have hfit : Fit ss := ⟨by omega, fun r hr => ⟨fun e => by have := (hk r hr).1; rw [e] at this; exact absurd this (by decide), Nat.le_trans (hk r hr).2.1 (by decide)⟩⟩
  exact ⟨x, dx, a, true, ss, rfl, upd_same, h.same s1, hfit, fun _ => ⟨hs, hk⟩, fun H' sb hr => ⟨rfl, k H' (fun b o e => sb b o (ne_of_none e hx) (s1 b o e)) ⟨ss, hr, hfit, Nat.le_refl _, rfl⟩⟩⟩


theorem eqvInts : ∀ a b : List Int, PyData.eqvAll (a.map PyData.int) (b.map PyData.int) = decide (a = b)
  | [], [] => rfl
  | [], _ :: _ => by simp [PyData.eqvAll]
  | _ :: _, [] => by simp [PyData.eqvAll]
  | x :: a, y :: b => by
    show (PyData.eqv (.int x) (.int y) && PyData.eqvAll (a.map PyData.int) (b.map PyData.int)) = _
    rw [eqvInts a b]
    show ((x == y) && decide (a = b)) = _
    by_cases h1 : x = y <;> by_cases h2 : a = b <;> simp [h1, h2]
theorem eqT {H : Hp} {p q : Addr} {a b : List Int} {Q : VK} (h1 : SqT K H p (a.map V.int)) (h2 : SqT K H q (b.map V.int)) (k : Q (.bl (decide (a = b))) H) : rEqD K (.ref p) (.ref q) H Q := by
  refine ⟨_, _, .tup h1 (dpInts a), .tup h2 (dpInts b), shTup a, shTup b, ?_⟩
  show Q (.bl (PyData.eqvAll (a.map PyData.int) (b.map PyData.int))) H
  rw [eqvInts]
  exact k
theorem neT {H : Hp} {p q : Addr} {a b : List Int} {Q : VK} (h1 : SqT K H p (a.map V.int)) (h2 : SqT K H q (b.map V.int)) (k : Q (.bl (!decide (a = b))) H) : rNeD K (.ref p) (.ref q) H Q := by
  refine ⟨_, _, .tup h1 (dpInts a), .tup h2 (dpInts b), shTup a, shTup b, ?_⟩
  show Q (.bl (!PyData.eqvAll (a.map PyData.int) (b.map PyData.int))) H
  rw [eqvInts]
  exact k
theorem slA_mid {H : Hp} {a : Addr} {xs : List V} {lo hi : Nat} {Q : VK} (h : SqT K H a xs) (q : ∀ p H', Same H H' → SqT K H' p ((xs.drop lo).take (hi - lo)) → Q (.ref p) H') : rSlA K (.ref a) (some (lo : Int)) (some (hi : Int)) H Q := by
  refine ⟨a, xs, rfl, h, fun hw => q a H (Same.refl _) ?_, fun _ p hp => q p _ (same_upd hp) (SqT.of ?_)⟩
  · have h1 := hw.1
    have h2 := hw.2
    rw [HT.sIx_nat] at h1 h2
    by_cases e : xs.length = 0
    · have e2 := List.eq_nil_of_length_eq_zero e
      subst e2
      simpa using h
    · have e0 : lo = 0 := by omega
      subst e0
      rw [List.drop_zero, Nat.sub_zero, List.take_of_length_le (by omega)]
      exact h
  · rw [upd_same]
    unfold cutV
    rw [HT.sIx_nat, HT.sIx_nat]
    congr 2
    by_cases h1 : lo ≤ xs.length
    · rw [Nat.min_eq_left h1]
      by_cases h2 : hi ≤ xs.length
      · rw [Nat.min_eq_left h2]
      · rw [Nat.min_eq_right (by omega), List.take_of_length_le (by rw [List.length_drop]; omega), List.take_of_length_le (by rw [List.length_drop]; omega)]
    · rw [show min lo xs.length = xs.length by omega, List.drop_of_length_le (Nat.le_refl _), List.drop_of_length_le (by omega), List.take_nil, List.take_nil]
/-- one of two readings of an operator -/
def rOr (r1 r2 : R2) : R2 := fun x y H Q => r1 x y H Q ∨ r2 x y H Q
theorem op_or {X : Cx} {f : Value → Value → Sem Value} {r1 r2 : R2} (h1 : OpR X f r1) (h2 : OpR X f r2) : OpR X f (rOr r1 r2) := by
  intro pins s σ H x y v u Q I rx ry h
  rcases h with h | h
  · exact h1 pins s σ H x y v u Q I rx ry h
  · exact h2 pins s σ H x y v u Q I rx ry h
theorem r_addL {H : Hp} {r q : Addr} {l m : List Int} {n : Nat} {Q : VK} (h1 : RowOf K H r l n) (h2 : SqL K H q (m.map V.int)) (hm : m.length ≤ 100000) (hn : n ≤ 20000) (h0 : 2 ≤ n) (k : ∀ z H', Same H H' → H z = none → RowOf K H' z (l ++ m) (4 * n) → Q (.ref z) H') : rOwnB K (cR K) "list" (spAdd K) (.ref r) (.ref q) H Q := by
  obtain ⟨dx, T0, e⟩ := h1.ins
  exact ⟨r, dx, _, rfl, e, ty_lst h2, r, q, l, m, n, rfl, h1, .inr ⟨.inl h2, hm, h0⟩, hn, k⟩
/-- the tables of the two defs that make lambdas -/
def qL (x : Str) (sc : Scope) : Str := (PyProof.Rows.envOfC x sc 0 0 .none).qual ++ "<lambda>"
def TS (K : PySem.W.Frag) : List (Addr × Str) := [(tbA K (fa K "_law_parts_right"), qL "_law_parts_right" (defScope s__law_parts_right)), (tbA K (fa K "_law_wrong_right"), qL "_law_wrong_right" (defScope s__law_wrong_right))]
structure Tb (K : PySem.W.Frag) (mg : Str → Option Value) (base : Heap) : Prop where
  b_parts : TabB base mg (cdA K (fa K "_law_parts_right")) (tbA K (fa K "_law_parts_right"))
  b_wrong : TabB base mg (cdA K (fa K "_law_wrong_right")) (tbA K (fa K "_law_wrong_right"))
  ne : tbA K (fa K "_law_parts_right") ≠ tbA K (fa K "_law_wrong_right")
theorem Tb.uP (U : Tb K mg base) : ∀ p ∈ TS K, p.1 = tbA K (fa K "_law_parts_right") → p.2 = qL "_law_parts_right" (defScope s__law_parts_right) := fun p hp e => by
  rcases List.mem_cons.mp hp with h | h
  · rw [h]
  · rw [List.mem_singleton.mp h] at e
    exact absurd e.symm U.ne
theorem Tb.uW (U : Tb K mg base) : ∀ p ∈ TS K, p.1 = tbA K (fa K "_law_wrong_right") → p.2 = qL "_law_wrong_right" (defScope s__law_wrong_right) := fun p hp e => by
  rcases List.mem_cons.mp hp with h | h
  · rw [h] at e
    exact absurd e U.ne
  · rw [List.mem_singleton.mp h]
theorem Tb.mP : (tbA K (fa K "_law_parts_right"), qL "_law_parts_right" (defScope s__law_parts_right)) ∈ TS K := List.mem_cons_self
theorem Tb.mW : (tbA K (fa K "_law_wrong_right"), qL "_law_wrong_right" (defScope s__law_wrong_right)) ∈ TS K := List.mem_cons_of_mem _ List.mem_cons_self

end
end R4
set_option Elab.async false
set_option linter.all false
set_option maxRecDepth 100000
set_option maxHeartbeats 4000000
namespace R4
open PySem L2 PySem.GW
open RM (Rn)
section
variable {w : World} {K : PySem.W.Frag} {mg : Str → Option Value} {base : Heap}

theorem joinE {b : Bool} {t1 t2 : TE} {σ : St} {H : Hp} {Q : VK} (P : V → Hp → Prop) (h1 : b = true → ∀ Q' : VK, (∀ v H1, P v H1 → Q' v H1) → t1 σ H Q') (h2 : b = false → ∀ Q' : VK, (∀ v H1, P v H1 → Q' v H1) → t2 σ H Q') (k : ∀ v H1, P v H1 → Q v H1) : if b = true then t1 σ H Q else t2 σ H Q := by
  cases b with
  | true => exact iteT (h1 rfl Q k)
  | false => exact iteF (h2 rfl Q k)
/-- how many stretches there can be -/
def Cnt (L k n : Nat) : Prop := (k ≤ 18 ∧ k ≤ n) ∨ (k = 19 ∧ 58 ≤ n) ∨ (n = L ∧ k ≤ 20)
theorem Cnt.le {L k n : Nat} (h : Cnt L k n) : k ≤ 20 := by
  rcases h with h | h | h <;> omega
theorem andW {c : Bool} {u : L2.TT} {σ : St} {H : Hp} {A B : Hp → Prop} {P R : Hp → Prop} (h0 : c = false → P H) (h1 : c = true → ∀ Q : Bool → Hp → Prop, (∀ H1, P H1 → Q false H1) → (∀ H1, R H1 → Q true H1) → u σ H Q) (kF : ∀ H1, P H1 → B H1) (kT : ∀ H1, R H1 → A H1) :
    if c = true then u σ H (fun b H1 => if b = true then A H1 else B H1) else (if false = true then A H else B H) := by
  cases c with
  | true => exact iteT (h1 rfl _ (fun H1 p => iteF (kF H1 p)) fun H1 r => iteT (kT H1 r))
  | false => exact iteF (iteF (kF H (h0 rfl)))
def spCutL (K : PySem.W.Frag) : Sp := fun vs H Q _ => ∃ (p c t : Addr) (b : Nat) (l : List Int), vs = [.ref p, .ref t] ∧ TapeOk H p c b ∧ b ≤ 10000000 ∧ SqT K H t (l.map V.int) ∧ l.length ≤ 75 ∧ (∀ x ∈ l, 0 ≤ x ∧ x < 4) ∧ ∀ a ss H', SameBut p H H' → TapeOk H' p c (b + 150) → H a = none → RunsL K H' a ss → ss.length ≤ 20 → (∀ r ∈ ss, StrOk r) → RM.flatS ss = l → Q (.ref a) H'

theorem ok__law_cut (T : Top K mg) : FnOk PW w K mg base CX0 2 (fa K "_law_cut") (fdOf K (fa K "_law_cut")) ["_law_tape", "_law_flat"] (spCutL K) := by
  refine T.F__law_cut.ok sc__law_cut (fun vs H Q E h => ?_) (fun cdv A outer s H vs Q E hr h => ?_)
  · obtain ⟨p, c, t, b, l, rfl, _hT, _hb, _hS, _hL, _h4, _k⟩ := h
    rfl
  · obtain ⟨p, c, t, b, l, rfl, hT, hb, hS, hL, h4, k⟩ := h
    have hu := hu_of hr
    refine ⟨_, (pss_cons (ps_par (i := 2) (j := 3) (by rfl) sc__law_cut.nd rfl rfl (by decide) rfl rfl (pa_cons (pe_lst pa_nil) (pa_cons pe_int pa_nil)) (by rfl))
      (pss_cons (ps_while PassesOwn.never (pt_cmpR op_lt (pv 3) (pe_callB call_len_seq (by rfl) T.z_len (by decide +kernel) (pa_cons (pv 1) pa_nil)) (nomark _)) (pss_cons (ps_set (i := 4) sc__law_cut.nd rfl (Or.inl rfl) (pe_callB (call_min2 rfl) (by rfl) T.z_min (by decide +kernel) (pa_cons (pe_op op_sub (pe_callB call_len_seq (by rfl) T.z_len (by decide +kernel) (pa_cons (pv 1) pa_nil)) (pv 3)) (pa_cons (pe_ifExp (pt_cmpR op_lt (pe_callB call_len_seq (by rfl) T.z_len (by decide +kernel) (pa_cons (pv 2) pa_nil)) pe_int (nomark _)) (pe_op op_add pe_int (pe_call (ok__law_draw T) (hr.mono (by decide)) rfl T.g__law_draw T.F__law_draw.kp T.b__law_draw .nil pass0 (pa_cons (pv 0) (pa_cons pe_int pa_nil)))) pe_int) pa_nil))))
      (pss_cons (ps_par (i := 5) (j := 6) (by rfl) sc__law_cut.nd rfl rfl (by decide) rfl rfl (pa_cons (pe_slice sl_tupA (pv 1) (po_some (pv 3)) (po_some (pe_op op_add (pv 3) (pv 4)))) (pa_cons pe_int pa_nil)) (by rfl))
      (pss_cons (ps_while PassesOwn.never (PW.pt (pw_and (pt_cmpR (op_eqD hr.units) (pe_slice sl_tupA (pv 1) (po_some (pe_op op_add (pv 3) (pe_op op_mul (pv 4) (pv 6)))) (po_some (pe_op op_add (pv 3) (pe_op op_mul (pv 4) (pe_op op_add (pv 6) pe_int))))) (pv 5) (nomark _)) (pw_and1 (pt_cmpR op_gt (pe_call (ok__law_draw T) (hr.mono (by decide)) rfl T.g__law_draw T.F__law_draw.kp T.b__law_draw .nil pass0 (pa_cons (pv 0) (pa_cons pe_int pa_nil))) pe_int (nomark _))))) (pss_one (ps_set (i := 6) sc__law_cut.nd rfl (Or.inl rfl) (pe_op op_add (pv 6) pe_int))))
      (pss_cons (ps_expr (pe_bm PySem.F.plainAttrs_list PySem.F.slot_list_append PySem.F.type_list_append mt_append (pv 2) (pa_cons (pe_tup (pa_cons (pv 5) (pa_cons (pv 6) pa_nil))) pa_nil)))
      (pss_one (ps_set (i := 3) sc__law_cut.nd rfl (Or.inl rfl) (pe_op op_add (pv 3) (pe_op op_mul (pv 4) (pv 6))))))))))
      (pss_one (ps_ret (pv 2))))), ?_⟩
    refine ⟨Nat.zero_le _, fun D hD => ⟨_, _, rfl, ?_⟩⟩
    obtain ⟨nDp, nDc⟩ := hT.ne hD
    obtain ⟨kd, hd0⟩ := hT.dict
    obtain ⟨W, hW⟩ : ∃ W : Nat → St → Hp → Prop, W = fun m σ H1 => ∃ (n : Nat) (ss : List Rn) (vs : List V) (o4 o5 o6 : Option V), σ = [some (.ref p), some (.ref t), some (.ref D), some (.int (n : Int)), o4, o5, o6] ∧ m = l.length - n ∧ n ≤ l.length ∧ SameBut p H H1 ∧ TapeOk H1 p c (b + 2 * n) ∧ H1 D = some (.lst vs) ∧ Pairs K H1 vs ss ∧ RM.flatS ss = l.take n ∧ (∀ r ∈ ss, StrOk r) ∧ Cnt l.length ss.length n := ⟨_, rfl⟩
    refine ⟨W, ⟨l.length, by rw [hW]; exact ⟨0, [], [], _, _, _, rfl, rfl, Nat.zero_le _, Same.but p (same_upd hD), hT.updL nDp nDc, upd_same, .nil, rfl, (fun r hr => nomatch hr), .inl ⟨Nat.zero_le _, Nat.zero_le _⟩⟩⟩, ?_⟩
    intro m σ H1 hw
    rw [hW] at hw
    obtain ⟨n, ss, vs, o4, o5, o6, rfl, rfl, hn, sb1, t1, hD1, hP1, hfl, hok, hc⟩ := hw
    obtain ⟨kd1, hd1⟩ := t1.dict
    have hS1 := sb1.sqT hd0 hS
    have hvs : vs.length = ss.length := Paired.length hP1
    refine ⟨_, rfl, _, rfl, t, _, rfl, .inr hS1, _, _, rfl, rfl, _, rfl, ?_⟩
    by_cases c0 : n < l.length
    · refine ifT (decide_eq_true (by rw [List.length_map]; omega)) ⟨fun σ' H' => ∃ m', m' < l.length - n ∧ W m' σ' H', fun _ _ h => h, ?_⟩
      refine ⟨_, rfl, t, _, rfl, .inr hS1, _, rfl, i0 (v := .int ((l.length - n : Nat) : Int)) (by rw [List.length_map]; exact congrArg V.int (by omega)) ?_⟩
      refine ⟨_, rfl, D, _, rfl, .inl (SqL.of hD1), _, _, rfl, rfl, _, rfl, ?_⟩
      refine joinE (fun v H2 => ∃ x : Nat, v = .int (x : Int) ∧ 1 ≤ x ∧ x ≤ 40 ∧ (18 ≤ ss.length → x = 40) ∧ SameBut p H1 H2 ∧ TapeOk H2 p c (b + 2 * n + 1)) ?_ ?_ ?_
      · intro hb1 Q' hQ'
        have hb2 := of_decide_eq_true hb1
        refine ⟨_, rfl, p, c, b + 2 * n, 5, rfl, t1, by omega, lim_small (by decide) (by decide), fun x H2 a1 a2 s2 t2 => ?_⟩
        obtain ⟨xn, rfl⟩ := Int.eq_ofNat_of_zero_le a1
        exact i0 (v := .int ((1 + xn : Nat) : Int)) (congrArg V.int (by omega)) (hQ' _ _ ⟨1 + xn, rfl, by omega, by omega, fun h => by omega, s2, t2⟩)
      · intro hb1 Q' hQ'
        exact hQ' _ _ ⟨40, rfl, by omega, by omega, fun _ => rfl, fun _ _ _ e => e, t1.mono (by omega)⟩
      · rintro v H2 ⟨x, rfl, hx1, hx2, hx3, s2, t2⟩
        refine ⟨_, _, rfl, ?_⟩
        rw [min_cast]
        obtain ⟨sz, hsz⟩ : ∃ sz, sz = min (l.length - n) x := ⟨_, rfl⟩
        rw [← hsz]
        have hz1 : 1 ≤ sz := by omega
        have hz2 : n + sz ≤ l.length := by omega
        have hS2 := s2.sqT hd1 hS1
        obtain ⟨kd2, hd2⟩ := t2.dict
        refine ⟨_, rfl, _, rfl, _, rfl, _, rfl, _, rfl, i0 (v := .int ((n + sz : Nat) : Int)) (congrArg V.int (by omega)) ⟨_, rfl, slA_mid hS2 fun wd H3 s3 hw3 => ⟨_, _, rfl, ?_⟩⟩⟩
        rw [← List.map_drop, ← List.map_take, Nat.add_sub_cancel_left] at hw3
        obtain ⟨wl, hwl⟩ : ∃ wl, wl = (l.drop n).take sz := ⟨_, rfl⟩
        rw [← hwl] at hw3
        have hwn : wl.length = sz := by rw [hwl, List.length_take, List.length_drop]; omega
        have t3 := t2.same s3
        obtain ⟨kd3, hd3⟩ := t3.dict
        have hS3 := Same.seqT s3 hS2
        obtain ⟨W2, hW2⟩ : ∃ W2 : Nat → St → Hp → Prop, W2 = fun m σ H4 => ∃ (k : Nat), σ = [some (.ref p), some (.ref t), some (.ref D), some (.int (n : Int)), some (.int (sz : Int)), some (.ref wd), some (.int (k : Int))] ∧ 1 ≤ k ∧ n + sz * k ≤ l.length ∧ m = l.length - sz * k ∧ SameBut p H3 H4 ∧ TapeOk H4 p c (b + 2 * n + k) ∧ RM.rep wl (sz * k) = (l.drop n).take (sz * k) := ⟨_, rfl⟩
        refine ⟨W2, ⟨_, by
          rw [hW2]
          refine ⟨1, rfl, Nat.le_refl _, by omega, rfl, fun _ _ _ e => e, t3, ?_⟩
          rw [Nat.mul_one, RM.rep_short wl sz (by omega), ← hwl, ← hwn, List.take_length]⟩, ?_⟩
        intro m2 σ2 H4 hw2
        rw [hW2] at hw2
        obtain ⟨k2, rfl, hk1, hk2, rfl, s4, t4, hrep⟩ := hw2
        obtain ⟨kd4, hd4⟩ := t4.dict
        have hS4 := s4.sqT hd3 hS3
        have hw4 := s4.sqT hd3 hw3
        have hkk : k2 ≤ sz * k2 := Nat.le_mul_of_pos_left _ hz1
        have hk3 : sz * (k2 + 1) = sz * k2 + sz := Nat.mul_succ _ _
        refine ⟨_, rfl, _, rfl, _, rfl, _, rfl, iC (.inl ⟨by omega, by omega⟩) (v := .int ((sz * k2 : Nat) : Int)) (congrArg V.int (by push_cast; rfl)) (i0 (v := .int ((n + sz * k2 : Nat) : Int)) (congrArg V.int (by omega)) ⟨_, rfl, ?_⟩)⟩
        refine ⟨_, rfl, _, rfl, _, rfl, tcI (i0 (v := .int ((k2 + 1 : Nat) : Int)) (congrArg V.int (by omega)) (iC (.inl ⟨by omega, by omega⟩) (v := .int ((sz * (k2 + 1) : Nat) : Int)) (congrArg V.int (by push_cast; rfl)) (i0 (v := .int ((n + sz * (k2 + 1) : Nat) : Int)) (congrArg V.int (by omega)) ⟨_, rfl, ?_⟩)))⟩
        refine slA_mid hS4 fun w5 H5 s5 hw5 => ⟨_, rfl, ?_⟩
        rw [← List.map_drop, ← List.map_take] at hw5
        refine eqT hw5 (Same.seqT s5 hw4) ⟨_, rfl, ?_⟩
        have e5 : n + sz * (k2 + 1) - (n + sz * k2) = sz := by omega
        rw [e5]
        refine andW (P := fun H6 => SameBut p H4 H6 ∧ TapeOk H6 p c (b + 2 * n + k2 + 1)) (R := fun H6 => SameBut p H4 H6 ∧ TapeOk H6 p c (b + 2 * n + k2 + 1) ∧ (l.drop (n + sz * k2)).take sz = wl) ?_ ?_ ?_ ?_
        · intro _
          exact ⟨Same.but p s5, (t4.same s5).mono (by omega)⟩
        · intro hc5 Q5 q5 q6
          have he5 := of_decide_eq_true hc5
          refine ⟨_, rfl, p, c, b + 2 * n + k2, 4, rfl, t4.same s5, by omega, lim_small (by decide) (by decide), fun x6 H6 a1 a2 s6 t6 => tcI ⟨_, _, rfl, rfl, _, rfl, ?_⟩⟩
          have s56 := (Same.but p s5).trans s6
          by_cases c6 : 0 < x6
          · rw [decide_eq_true c6]
            exact q6 _ ⟨s56, t6, he5⟩
          · rw [decide_eq_false c6]
            exact q5 _ ⟨s56, t6⟩
        · rintro H6 ⟨s6, t6⟩
          obtain ⟨kd6, hd6⟩ := t6.dict
          have hD6 : H6 D = some (.lst vs) := s6 _ _ nDp (s4 _ _ nDp (s3 _ _ (s2 _ _ nDp hD1)))
          have hw6 := s6.sqT hd4 hw4
          have s16 : SameBut p H1 H6 := s2.trans ((Same.but p s3).trans (s4.trans s6))
          have hP6 := s16.pairs hd1 hP1
          refine ⟨_, rfl, .inl ⟨rfl, _, SqL.of hD6⟩, _, rfl, _, rfl, Nat.le_of_ble_eq_true rfl, fun tp htp => ?_⟩
          have stp := same_upd (o := .tup [.ref wd, .int (k2 : Int)]) htp
          have hD7 := stp _ _ hD6
          refine ⟨D, _, _, rfl, rfl, hD7, (by rw [sizeLine_eq, hvs]; have := hc.le; omega), ?_⟩
          refine ⟨_, rfl, _, rfl, _, rfl, iC (.inl ⟨by omega, by omega⟩) (v := .int ((sz * k2 : Nat) : Int)) (congrArg V.int (by push_cast; rfl)) (i0 (v := .int ((n + sz * k2 : Nat) : Int)) (congrArg V.int (by omega)) ?_)⟩
          have hpos : 0 < sz * k2 := by omega
          refine ⟨l.length - (n + sz * k2), by omega, ?_⟩
          rw [hW]
          refine ⟨n + sz * k2, ss ++ [(wl, k2)], _, _, _, _, rfl, rfl, hk2, ?_, ?_, upd_same, ?_, ?_, ?_, ?_⟩
          · exact but_at hD (sb1.trans (s16.trans (Same.but p stp)))
          · exact ((t6.same stp).updL nDp nDc).mono (by omega)
          · exact Paired.append (Pairs.upd hD7 (Pairs.same stp hP6)) ⟨tp, wd, rfl, sqT_upd hD7 (SqT.of upd_same), sqT_upd hD7 (Same.seqT stp hw6)⟩
          · rw [RM.flatS_append, RM.flatS_one, hfl, hwn, hrep, ← List.take_add]
          · intro r hr
            rcases List.mem_append.mp hr with h | h
            · exact hok r h
            · rw [List.mem_singleton.mp h]
              refine ⟨by show 1 ≤ wl.length; omega, by show wl.length ≤ 40; omega, fun y hy => ?_, ?_⟩
              · have hy2 : y ∈ wl := hy
                rw [hwl] at hy2
                exact h4 y (List.mem_of_mem_drop (List.mem_of_mem_take hy2))
              · show k2 ≤ 10 ^ 300
                exact Nat.le_trans (show k2 ≤ 75 by omega) (by decide +kernel)
          · rw [List.length_append]
            show Cnt l.length (ss.length + 1) (n + sz * k2)
            have hsk : sz ≤ sz * k2 := Nat.le_mul_of_pos_right _ hk1
            rcases hc with ⟨c1, c2⟩ | ⟨c1, c2⟩ | ⟨c1, c2⟩
            · by_cases c3 : ss.length < 18
              · exact .inl ⟨by omega, by omega⟩
              · have := hx3 (by omega)
                by_cases c4 : l.length - n ≤ 40
                · exact .inr (.inr ⟨by omega, by omega⟩)
                · exact .inr (.inl ⟨by omega, by omega⟩)
            · have := hx3 (by omega)
              exact .inr (.inr ⟨by omega, by omega⟩)
            · omega
        · rintro H6 ⟨s6, t6, he6⟩
          have hle6 := congrArg List.length he6
          rw [hwn, List.length_take, List.length_drop] at hle6
          refine ⟨fun σ' H' => ∃ m', m' < l.length - sz * k2 ∧ W2 m' σ' H', fun _ _ h => h, ?_⟩
          refine ⟨_, rfl, tcI (i0 (v := .int ((k2 + 1 : Nat) : Int)) (congrArg V.int (by omega)) ⟨l.length - sz * (k2 + 1), by omega, ?_⟩)⟩
          rw [hW2]
          refine ⟨k2 + 1, rfl, by omega, by omega, rfl, s4.trans s6, t6.mono (by omega), ?_⟩
          · rw [hk3, show sz * k2 + sz = wl.length * k2 + sz by rw [hwn], RM.rep_add, hwn, hrep, RM.rep_short wl sz (by omega), List.take_add, List.drop_drop, he6, ← hwn, List.take_length]
    · refine ifF (decide_eq_false (by rw [List.length_map]; omega)) ?_
      have en : n = l.length := by omega
      rw [en, List.take_length] at hfl
      exact ⟨_, rfl, k D ss H1 sb1 (t1.mono (by omega)) hD ⟨vs, hD1, hP1⟩ hc.le hok hfl⟩
end
end R4
set_option Elab.async false
set_option linter.all false
set_option maxRecDepth 100000
set_option maxHeartbeats 4000000
namespace R4
open PySem L2 PySem.GW
open RM (Rn)
section
variable {w : World} {K : PySem.W.Frag} {mg : Str → Option Value} {base : Heap}

def Lt4 (l : List Int) : Prop := ∀ x ∈ l, 0 ≤ x ∧ x < 4
theorem Lt4.app {a b : List Int} (h1 : Lt4 a) (h2 : Lt4 b) : Lt4 (a ++ b) := fun x hx => (List.mem_append.mp hx).elim (h1 x) (h2 x)
theorem Lt4.take {a : List Int} (h1 : Lt4 a) (n : Nat) : Lt4 (a.take n) := fun x hx => h1 x (List.mem_of_mem_take hx)
theorem Lt4.drop {a : List Int} (h1 : Lt4 a) (n : Nat) : Lt4 (a.drop n) := fun x hx => h1 x (List.mem_of_mem_drop hx)
def spBeside (K : PySem.W.Frag) : Sp := fun vs H Q _ => ∃ (p c t : Addr) (b : Nat) (l : List Int), vs = [.ref p, .ref t] ∧ TapeOk H p c b ∧ b ≤ 10000000 ∧ SqT K H t (l.map V.int) ∧ l.length ≤ 72 ∧ Lt4 l ∧ ∀ q m H', SameBut p H H' → TapeOk H' p c (b + 10) → SqT K H' q (m.map V.int) → m.length ≤ 75 → Lt4 m → Q (.ref q) H'

theorem ok__law_beside (T : Top K mg) : FnOk PW w K mg base CX0 3 (fa K "_law_beside") (fdOf K (fa K "_law_beside")) ["_law_tape", "_law_flat"] (spBeside K) := by
  refine T.F__law_beside.ok sc__law_beside (fun vs H Q E h => ?_) (fun cdv A outer s H vs Q E hr h => ?_)
  · obtain ⟨p, c, t, b, l, rfl, _hT, _hb, _hS, _hL, _h4, _k⟩ := h
    rfl
  · obtain ⟨p, c, t, b, l, rfl, hT, hb, hS, hL, h4, k⟩ := h
    have hu := hu_of hr
    refine ⟨_, (pss_cons (ps_set (i := 2) sc__law_beside.nd rfl (Or.inl rfl) (pe_call (ok__law_draw T) (hr.mono (by decide)) rfl T.g__law_draw T.F__law_draw.kp T.b__law_draw .nil pass0 (pa_cons (pv 0) (pa_cons (pe_op op_add (pe_callB call_len_seq (by rfl) T.z_len (by decide +kernel) (pa_cons (pv 1) pa_nil)) pe_int) pa_nil))))
      (pss_cons (ps_set (i := 3) sc__law_beside.nd rfl (Or.inl rfl) (pe_callTy call_tuple_of (by rfl) T.z_tuple (by decide +kernel) (pa_cons (pe_lc (own := [("_law_k", 4)]) (te := tCall spDraw [] E0 (tCons (tVar 0) (tCons (tC (.int 4)) tNil))) (g := gName 4) (by rfl) sc__law_beside.nd (pi_range1 (by rfl) T.z_range (pa_cons (pe_call (ok__law_draw T) (hr.mono (by decide)) rfl T.g__law_draw T.F__law_draw.kp T.b__law_draw .nil pass0 (pa_cons (pv 0) (pa_cons pe_int pa_nil))) pa_nil)) (blkOk_by (own := [("_law_k", 4)]) (N := ["_law_tape", "_law_flat", "_law_at", "_law_more", "_law_k"]) (sc := (defScope s__law_beside)) (by decide +kernel)) (fun _ _ _ _ _ => (pg_name (i := 4) sc__law_beside.nd rfl (Or.inl rfl))) (fun _ _ _ _ _ => pts_nil) (fun _ _ _ _ _ => (pe_call (ok__law_draw T) (hr.mono (by decide)) rfl T.g__law_draw T.F__law_draw.kp T.b__law_draw .nil pass0 (pa_cons (pv 0) (pa_cons pe_int pa_nil))))) pa_nil)))
      (pss_one (ps_ret (pe_call (okV__law_pick T) (hr.mono (by decide)) rfl T.g__law_pick T.F__law_pick.kp T.b__law_pick .nil pass0 (pa_cons (pv 0) (pa_cons (pe_lst (pa_cons (pv 1) (pa_cons (pe_slice sl_tupA (pv 1) po_none (po_some (pv 2))) (pa_cons (pe_op op_catA (pv 1) (pv 3)) (pa_cons (pe_op op_catA (pe_op op_catA (pe_slice sl_tupA (pv 1) po_none (po_some (pv 2))) (pv 3)) (pe_slice sl_tupA (pv 1) (po_some (pv 2)) po_none)) (pa_cons (pe_op op_catA (pe_slice sl_tupA (pv 1) po_none (po_some (pv 2))) (pv 3)) pa_nil)))))) pa_nil))))))), ?_⟩
    obtain ⟨kd, hd0⟩ := hT.dict
    refine ⟨_, rfl, _, rfl, t, _, rfl, .inr hS, tcI (i0 (v := .int ((l.length + 1 : Nat) : Int)) (by rw [List.length_map]; exact congrArg V.int (by omega)) ⟨p, c, b, _, rfl, hT, by omega, lim_small (by omega) (by omega), fun x1 H1 a1 a2 s1 t1 => ?_⟩)⟩
    obtain ⟨at1, rfl⟩ := Int.eq_ofNat_of_zero_le a1
    obtain ⟨kd1, hd1⟩ := t1.dict
    refine ⟨_, rfl, p, c, b + 1, 4, rfl, t1, by omega, lim_small (by decide) (by decide), fun x2 H2 a3 a4 s2 t2 => ⟨x2, rfl, by omega, by omega, fun D hD => ?_⟩⟩
    obtain ⟨nDp, nDc⟩ := t2.ne hD
    obtain ⟨kd2, hd2⟩ := t2.dict
    refine lc_range (lo := 0) (n := x2.toNat) (fun j H4 => SameBut p H2 H4 ∧ TapeOk H4 p c (b + 2 + j) ∧ ∃ ns : List Int, H4 D = some (.lst (ns.map V.int)) ∧ ns.length = j ∧ Lt4 ns)
      ⟨Same.but p (same_upd hD), (t2.updL nDp nDc).mono (by omega), [], upd_same, rfl, fun x hx => nomatch hx⟩ ?_ ?_
    · rintro j H4 hj ⟨sb4, t4, ns, hE4, hnl, hn4⟩
      refine ⟨rfl, ?_⟩
      refine ⟨_, rfl, p, c, b + 2 + j, 4, rfl, t4, by omega, lim_small (by omega) (by omega), fun x6 H6 a5 a6 s6 t6 => ?_⟩
      refine ⟨_, s6 _ _ nDp hE4, (by rw [List.length_map, sizeLine_eq]; omega), but_at hD (sb4.trans s6), (t6.updL nDp nDc).mono (by omega), ns ++ [x6], ?_, (by rw [List.length_append, hnl]; rfl), fun x hx => ?_⟩
      · rw [upd_same, List.map_append]; rfl
      · rcases List.mem_append.mp hx with h | h
        · exact hn4 x h
        · rw [List.mem_singleton.mp h]; omega
    · rintro H4 ⟨sb4, t4, ns, hE4, hnl, hn4⟩
      refine ⟨D, _, rfl, .inl ⟨SqL.of hE4, fun q hq => ?_⟩⟩
      have sq := same_upd (o := .tup (ns.map V.int)) hq
      have t5 := t4.same sq
      obtain ⟨kd5, hd5⟩ := t5.dict
      have sb5 : SameBut p H (upd H4 q (.tup (ns.map V.int))) := s1.trans (s2.trans (sb4.trans (Same.but p sq)))
      have hS5 := sb5.sqT hd0 hS
      have hN5 : SqT K (upd H4 q (.tup (ns.map V.int))) q (ns.map V.int) := SqT.of upd_same
      generalize upd H4 q (.tup (ns.map V.int)) = H5 at t5 hd5 sb5 hS5 hN5 ⊢
      have cz : ∀ {n : Nat}, n ≤ 1000 → n ≤ sizeLine := fun h => by rw [sizeLine_eq]; omega
      refine ⟨_, rfl, _, rfl, _, rfl, _, rfl, _, rfl, slA_take hS5 fun p1 H6 s6 h6 => ?_⟩
      refine ⟨_, rfl, _, rfl, catA (Same.seqT s6 hS5) (Same.seqT s6 hN5) (cz (by simp only [List.length_map]; omega)) fun p2 H7 s7 h7 => ?_⟩
      refine ⟨_, rfl, _, rfl, _, rfl, slA_take (Same.seqT (s6.trans s7) hS5) fun p3 H8 s8 h8 => ⟨_, rfl, catA h8 (Same.seqT (s6.trans (s7.trans s8)) hN5) (cz (by simp only [List.length_map, List.length_take]; omega)) fun p4 H9 s9 h9 => ?_⟩⟩
      have s69 := s6.trans (s7.trans (s8.trans s9))
      refine ⟨_, rfl, _, rfl, _, rfl, noPart (slA_drop (Same.seqT s69 hS5) fun p5 H10 s10 h10 => catA (Same.seqT s10 h9) h10 (cz (by simp only [List.length_map, List.length_take, List.length_drop, List.length_append]; omega)) fun p6 H11 s11 h11 => ?_)⟩
      have s611 := s69.trans (s10.trans s11)
      refine ⟨_, rfl, _, rfl, _, rfl, slA_take (Same.seqT s611 hS5) fun p7 H12 s12 h12 => ⟨_, rfl, catA h12 (Same.seqT (s611.trans s12) hN5) (cz (by simp only [List.length_map, List.length_take]; omega)) fun p8 H13 s13 h13 => ?_⟩⟩
      have s613 := s611.trans (s12.trans s13)
      refine ⟨Nat.le_of_ble_eq_true rfl, fun L hL2 => ?_⟩
      have sL := same_upd (o := .lst [.ref t, .ref p1, .ref p2, .ref p6, .ref p8]) hL2
      have g0 : SqT K (upd H13 L (.lst [.ref t, .ref p1, .ref p2, .ref p6, .ref p8])) t (l.map V.int) := Same.seqT (s613.trans sL) hS5
      have g1 := Same.seqT (s7.trans (s8.trans (s9.trans (s10.trans (s11.trans (s12.trans (s13.trans sL))))))) h6
      have g2 := Same.seqT (s8.trans (s9.trans (s10.trans (s11.trans (s12.trans (s13.trans sL)))))) h7
      have g3 := Same.seqT (s12.trans (s13.trans sL)) h11
      have g4 := Same.seqT sL h13
      rw [← List.map_take] at g1
      rw [← List.map_append] at g2
      rw [← List.map_take, ← List.map_drop, ← List.map_append, ← List.map_append] at g3
      rw [← List.map_take, ← List.map_append] at g4
      have t14 := t5.same (s613.trans sL)
      obtain ⟨kd14, hd14⟩ := t14.dict
      have sb14 : SameBut p H _ := sb5.trans (Same.but p (s613.trans sL))
      refine ⟨p, c, L, _, _, rfl, t14, by omega, SqL.of upd_same, Nat.le_of_ble_eq_true rfl, Nat.le_of_ble_eq_true rfl, fun i x H15 hx s15 t15 => ?_⟩
      have fin : ∀ (q' : Addr) (m : List Int), SqT K (upd H13 L (.lst [.ref t, .ref p1, .ref p2, .ref p6, .ref p8])) q' (m.map V.int) → m.length ≤ 75 → Lt4 m → Q (.ref q') H15 := fun q' m g hm h4m => k q' m H15 (sb14.trans s15) (t15.mono (by omega)) (s15.sqT hd14 g) hm h4m
      match i, hx with
      | 0, hx => cases Option.some.inj hx; exact fin _ _ g0 (by omega) h4
      | 1, hx => cases Option.some.inj hx; exact fin _ _ g1 (by rw [List.length_take]; omega) (h4.take _)
      | 2, hx => cases Option.some.inj hx; exact fin _ _ g2 (by rw [List.length_append]; omega) (h4.app hn4)
      | 3, hx => cases Option.some.inj hx; exact fin _ _ g3 (by simp only [List.length_append, List.length_take, List.length_drop]; omega) (((h4.take _).app hn4).app (h4.drop _))
      | 4, hx => cases Option.some.inj hx; exact fin _ _ g4 (by simp only [List.length_append, List.length_take]; omega) ((h4.take _).app hn4)
      | i + 5, hx => simp at hx
end
end R4
set_option Elab.async false
set_option linter.all false
set_option maxRecDepth 100000
set_option maxHeartbeats 4000000
namespace R4
open PySem L2 PySem.GW LamX
open RM (Rn)
/-- what _law_refused makes of the call's reading -/
def TRefused (K : PySem.W.Frag) : (XK → Hp → VK → Prop) → Hp → VK → Prop := fun tl H Q => ∀ p0, H p0 = none →
  tl (fun cls d H' => (cls = .ref (He.ga K "BadRow") ∧ ∃ dd v, d = some dd ∧ H' dd = some (.xd [("index", v)]) ∧ ∀ p, H' p = none → Q (.ref p) (upd H' p (.tup [.str "row", v, .bl false]))) ∨
    (cls = .ref (He.ga K "OutsideRow") ∧ ∃ dd v, d = some dd ∧ H' dd = some (.xd [("number", v)]) ∧ rRepr K [v] H' (fun r H2 => ∀ p, H2 p = none → Q (.ref p) (upd H2 p (.tup [.str "outside", r, .bl false]))) ∧ True) ∨
    (cls = .ref (He.ga K "TooMany") ∧ ∃ dd v, d = some dd ∧ H' dd = some (.xd [("most", v)]) ∧ ∀ p, H' p = none → Q (.ref p) (upd H' p (.tup [.str "many", v, .bl false])))) (upd H p0 (.tup [.str "fine", .non, .bl false])) (fun _ H' => ∃ v, some (some (V.ref p0)) = some (some v) ∧ Q v H')
theorem call_reprS {Y : Cx} {a : Addr} {pn : List (Addr × Obj)} (hg : Y.A.guards = some []) (hu : Y.A.units + 70 < cLine) : CallR (Y.suite a pn) (.builtin "repr") (rRepr Y.K) := call_repr (X := Y.suite a pn) hg hu
theorem refused_gives {X : Cx} {g : Addr} {cdg : Value} {q : Str} (T : Top X.K X.mg) (hgd : X.A.guards = some []) (hr : Room 2 X.A) :
    Gives X ["_law_call", "_law_found", "e"] "_law_refused" (defScope s__law_refused) g cdg (defBody s__law_refused) "_law_call" q (TRefused X.K) := by
  intro f c' s H Q tl act hc h
  have hgW : ∀ {X' : Cx}, X'.mg = X.mg → True := fun _ => trivial
  refine ⟨_, pss_cons (ps_set (i := 1) sc__law_refused.nd rfl (Or.inl rfl) (pe_tup (pa_cons pe_str (pa_cons pe_non (pa_cons pe_bl pa_nil)))))
    (pss_cons (ps_try_manyA (tb := fun W D σ H => ∃ Ech : XK, (∀ cls d H', Ech cls d H' → W cls d σ H') ∧ σ[0]? = some (some (.ref f)) ∧ H c' = some (CodeO c' q) ∧ tl Ech H (fun _ H' => D.nx σ H')) rfl rfl sc__law_refused.nd L2.takes0 (fun W pn xe tk _ => ?_)
      (HdsA.consAs (i := 2) rfl rfl ⟨rfl, by decide, .inl T.e_BadRow.g⟩ (fun a oe cls d pn hz hf => pss_one (ps_set (i := 1) sc__law_refused.nd rfl (Or.inl rfl) (pe_tup (pa_cons pe_str (pa_cons (pe_xf (ErrG.xf T.e_BadRow.r) (noAt T.e_BadRow.i 0 rfl) hz hf (pv 2)) (pa_cons
          (pe_or (pe_callB (call_isS T.e_BadRow.z hz hf) (by rfl) T.z_isinstance (by decide +kernel) (pa_cons (pv 2) (pa_cons (pe_glob (v := .ref (He.ga X.K "OutsideRow")) rfl T.e_OutsideRow.g rfl) pa_nil)))
          (pe_or (pe_callB (call_isS T.e_BadRow.z hz hf) (by rfl) T.z_isinstance (by decide +kernel) (pa_cons (pv 2) (pa_cons (pe_glob (v := .ref (He.ga X.K "TooMany")) rfl T.e_TooMany.g rfl) pa_nil)))
          (pe_one (pe_not (pe_callB (call_isS T.e_BadRow.z hz hf) (by rfl) T.z_isinstance (by decide +kernel) (pa_cons (pv 2) (pa_cons (pe_glob (v := .ref (He.ga X.K "WebError")) rfl T.g_WebError rfl) pa_nil))))))) pa_nil))))))
      (HdsA.consAs (i := 2) rfl rfl ⟨rfl, by decide, .inl T.e_OutsideRow.g⟩ (fun a oe cls d pn hz hf => pss_one (ps_set (i := 1) sc__law_refused.nd rfl (Or.inl rfl) (pe_tup (pa_cons pe_str (pa_cons (pe_callB (call_reprS (by exact hgd) (by have := hr.un; show X.A.units + 3 + 70 < _; omega)) (by rfl) T.z_repr (by decide +kernel) (pa_cons (pe_xf (ErrG.xf T.e_OutsideRow.r) (noAt T.e_OutsideRow.i 0 rfl) hz hf (pv 2)) pa_nil)) (pa_cons
          (pe_or (pe_callB (call_isS T.e_OutsideRow.z hz hf) (by rfl) T.z_isinstance (by decide +kernel) (pa_cons (pv 2) (pa_cons (pe_glob (v := .ref (He.ga X.K "TooMany")) rfl T.e_TooMany.g rfl) pa_nil)))
          (pe_one (pe_not (pe_callB (call_isS T.e_OutsideRow.z hz hf) (by rfl) T.z_isinstance (by decide +kernel) (pa_cons (pv 2) (pa_cons (pe_glob (v := .ref (He.ga X.K "WebError")) rfl T.g_WebError rfl) pa_nil)))))) pa_nil))))))
      (HdsA.consAs (i := 2) rfl rfl ⟨rfl, by decide, .inl T.e_TooMany.g⟩ (fun a oe cls d pn hz hf => pss_one (ps_set (i := 1) sc__law_refused.nd rfl (Or.inl rfl) (pe_tup (pa_cons pe_str (pa_cons (pe_xf (ErrG.xf T.e_TooMany.r) (noAt T.e_TooMany.i 0 rfl) hz hf (pv 2)) (pa_cons
          (pe_not (pe_callB (call_isS T.e_TooMany.z hz hf) (by rfl) T.z_isinstance (by decide +kernel) (pa_cons (pv 2) (pa_cons (pe_glob (v := .ref (He.ga X.K "WebError")) rfl T.g_WebError rfl) pa_nil)))) pa_nil)))))) HdsA.nil))))
    (pss_one (ps_ret (pv 1)))), ?_⟩
  · refine ⟨fun pins s' σ H' D I h' => ?_⟩
    obtain ⟨Ech, hW, h1, h2, h3⟩ := h'
    exact (pss_one (ps_expr (act W pn xe Ech _ _ σ tk hW))).run pins s' σ H' D I ⟨rfl, h1, h2, h3⟩
  · refine ⟨Nat.le_of_ble_eq_true rfl, fun p0 hp0 => ?_⟩
    refine ⟨_, fun cls d H' hE => ?_, rfl, (same_upd hp0) _ _ hc, h p0 hp0⟩
    have no : ∀ {b : Bool} {P : Prop}, b = true → (b = false → P) := fun h1 h2 => by rw [h1] at h2; cases h2
    rcases hE with ⟨rfl, dd, v, rfl, hd, k⟩ | ⟨rfl, dd, v, rfl, hd, k⟩ | ⟨rfl, dd, v, rfl, hd, k⟩
    · have hx : ∀ d2 : Addr, some dd = some d2 → ∃ fs, H' d2 = some (.xd fs) := fun d2 e => ⟨_, by cases e; exact hd⟩
      refine ⟨true, T.x_BadRow_BadRow, fun _ a ha => ?_, fun z => absurd z.symm Bool.false_ne_true⟩
      refine ⟨_, rfl, rfl, rfl, dd, _, v, rfl, hd, rfl, ?_⟩
      refine ⟨_, rfl, ⟨rfl, hx, _, _, false, rfl, .own _, T.q_BadRow_OutsideRow, _, rfl, iteF ?_⟩⟩
      refine ⟨_, rfl, ⟨rfl, hx, _, _, false, rfl, .own _, T.q_BadRow_TooMany, _, rfl, iteF ?_⟩⟩
      refine ⟨_, rfl, ⟨rfl, hx, _, _, true, rfl, .own _, T.e_BadRow.kw, _, rfl, ?_⟩⟩
      exact ⟨Nat.le_of_ble_eq_true rfl, fun p hp => ⟨_, rfl, k p hp⟩⟩
    · have hx : ∀ d2 : Addr, some dd = some d2 → ∃ fs, H' d2 = some (.xd fs) := fun d2 e => ⟨_, by cases e; exact hd⟩
      obtain ⟨⟨x, dat, ex, r1, r2, r3, r4, r5, r6, r7, kq⟩, _⟩ := k
      refine ⟨false, T.x_OutsideRow_BadRow, fun z => absurd z Bool.false_ne_true, fun _ => ⟨true, T.x_OutsideRow_OutsideRow, fun _ a ha => ?_, fun z => absurd z.symm Bool.false_ne_true⟩⟩
      refine ⟨_, rfl, rfl, rfl, dd, _, v, rfl, hd, rfl, x, dat, ex, r1, r2, r3, r4, r5, r6, r7, ?_⟩
      refine ⟨_, rfl, ⟨rfl, hx, _, _, false, rfl, .own _, T.q_OutsideRow_TooMany, _, rfl, iteF ?_⟩⟩
      refine ⟨_, rfl, ⟨rfl, hx, _, _, true, rfl, .own _, T.e_OutsideRow.kw, _, rfl, ?_⟩⟩
      exact ⟨Nat.le_of_ble_eq_true rfl, fun p hp => ⟨_, rfl, kq p hp⟩⟩
    · have hx : ∀ d2 : Addr, some dd = some d2 → ∃ fs, H' d2 = some (.xd fs) := fun d2 e => ⟨_, by cases e; exact hd⟩
      refine ⟨false, T.x_TooMany_BadRow, fun z => absurd z Bool.false_ne_true, fun _ => ⟨false, T.x_TooMany_OutsideRow, fun z => absurd z Bool.false_ne_true, fun _ => ⟨true, T.x_TooMany_TooMany, fun _ a ha => ?_, fun z => absurd z.symm Bool.false_ne_true⟩⟩⟩
      refine ⟨_, rfl, rfl, rfl, dd, _, v, rfl, hd, rfl, ?_⟩
      refine ⟨_, rfl, ⟨rfl, hx, _, _, true, rfl, .own _, T.e_TooMany.kw, _, rfl, ?_⟩⟩
      exact ⟨Nat.le_of_ble_eq_true rfl, fun p hp => ⟨_, rfl, k p hp⟩⟩
/-- _law_refused(lambda: body) -/
theorem pe_refused {X : Cx} {c P : Addr} {k : Nat} {params : Arguments} {body : Expr} {scope : Scope} {t : XK → TE} {p lpos pos : Pos} {Ts : List (Addr × Str)} (T : Top X.K X.mg) (hgd : X.A.guards = some []) (hg : Gl X "_law_refused")
    (TB : TabB X.base X.mg c P) (hcode : X.env.code = .ref c) (hmT : (P, X.env.qual ++ "<lambda>") ∈ Ts) (hu : ∀ p ∈ Ts, p.1 = P → p.2 = X.env.qual ++ "<lambda>") (hr : Room (k + 2) X.A) (L : LamS X.env.scope scope) (hdef : defaultsOf params X.env = ([], []))
    (hbind : ∀ (q : Str) (cl : List (Str × Addr)) (pm cv ctv : Value), bindArgs (PySem.W.kla_fn "<lambda>" q params body scope cl pm cv ctv) ⟨[], []⟩ = pure [])
    (hbody : ∀ (A : Around) (outer : List Env) (s : Shared) (H : Hp) (E : XK) (f c' : Addr), Room k (A.deeper (lamEnv X scope s.heap.objs.size f c')) → PE (lamCx X A outer s H E scope f c') body (t E)) :
    PE X (.Call (.Name "_law_refused" p) [.Lambda params body scope lpos] [] pos) (tLam Ts (TRefused X.K) t) := by
  obtain ⟨oc, od, kV, doc, pm, an, cdv, ct, osl, e, lk, hcd⟩ := T.F__law_refused.ex
  have hb := T.b__law_refused
  rw [e] at lk hb
  exact pe_lam hg T.g__law_refused T.F__law_refused.kp lk hcd hb sc__law_refused rfl (.inl rfl) (refused_gives T hgd (hr.mono (by omega))) TB hcode hmT hu hr L hdef hbind hbody
end R4
set_option Elab.async false
set_option linter.all false
set_option maxRecDepth 100000
set_option maxHeartbeats 4000000
namespace R4
open PySem L2 PySem.GW
open RM (Rn)
section
variable {w : World} {K : PySem.W.Frag} {mg : Str → Option Value} {base : Heap}

open LamX
set_option pp.maxSteps 700
theorem Room.u70 {k : Nat} {A : Around} (r : Room k A) : A.units + 70 < cLine := by have := r.un; omega
/-- data that repr tells -/
structure Rp (d : PyData) : Prop where
  s : PyData.showable d = true
  h : PyData.hasDict d = false
  l : d ≠ .list []
  t : ∀ ds, d ≠ .tuple ds
  dp : PyData.depth d ≤ 60
  z : (PyData.shown d).length ≤ sizeLine
  o : PyData.canLay0 (.str (PyData.shown d)) = true
def spParts (K : PySem.W.Frag) : Sp := fun vs H Q _ => ∃ (p c r t : Addr) (b n : Nat) (l : List Int), vs = [.ref p, .ref r, .ref t] ∧ TapeOk H p c b ∧ b ≤ 1000000 ∧ RowOf K H r l n ∧ n ≤ 1000 ∧ SqT K H t (l.map V.int) ∧ l.length ≤ 75 ∧ Tabs (TS K) H ∧ ∀ H', ExtB p H H' → TapeOk H' p c (b + 10) → Tabs (TS K) H' → Q (.bl true) H'
section
variable {H : Hp} {r t : Addr} {l : List Int} {n : Nat} {Q : VK} {E : XK} {σ : St}
theorem m_plain (h : RowOf K H r l n) (hl : l.length ≤ 2000) (k : ∀ q H', Same H H' → SqT K H' q (l.map V.int) → Q (.ref q) H') : ∃ a dx fs, V.ref r = .ref a ∧ H a = some (.ins (cR K) dx fs) ∧ List.lookup ("plain" : Str) fs = none ∧ tNil σ H fun vs H2 => spPlain K (.ref r :: (vs ++ [.int 2000])) H2 Q E0 :=
  m_at h (fun _ => rfl) (nilI ⟨r, l, n, 2000, rfl, h, hl, by decide, k⟩)
theorem spell_at (h : RowOf K H r l n) (hl : l.length ≤ 1000) : ∃ dx T0, H r = some (.ins (cR K) dx [("stretches", .ref T0)]) ∧ ∀ (Q : VK) (E : XK), (∀ q H', Same H H' → SqT K H' q (l.map V.int) → Q (.ref q) H') → spSpell K [.ref T0] H Q E := by
  obtain ⟨ss, ⟨dx, T0, vs, h1, h2, h3⟩, h4, h5, h6⟩ := h
  refine ⟨dx, T0, h1, fun Q E k => ⟨T0, vs, ss, rfl, .inr h2, h3, h4, by rw [h6]; exact hl, ?_⟩⟩
  rw [h6]
  exact k
theorem stepL_one (l : List Int) : HT.stepL l 1 = l := by
  rw [HT.stepL_get l 1 (Nat.le_refl _)]
  have e3 : HT.stepN l.length 1 = l.length := by
    unfold HT.stepN
    split
    · rw [Nat.div_one]; omega
    · omega
  rw [e3]
  apply List.ext_getElem
  · simp
  · intro i h1 h2
    simp at h1 ⊢
    rw [List.getElem?_eq_getElem h2]
    rfl
theorem ne_T {a b : Addr} (h1 : SqT K H a (l.map V.int)) (h2 : SqT K H b (l.map V.int)) (q : Q (.bl false) H) : rNeD K (.ref a) (.ref b) H Q := ne_same (.tup h1 (dpInts l)) (.tup h2 (dpInts l)) (shTup l) q
theorem last_at (h : 0 < l.length) : L2.atI (l.map V.int) (-1) = some (.int (l.getD (l.length - 1) 0)) := by
  have e : l = l.take (l.length - 1) ++ [l.getD (l.length - 1) 0] := by
    have h1 : l[l.length - 1]? = some (l.getD (l.length - 1) 0) := by
      rw [List.getD_eq_getElem?_getD, List.getElem?_eq_getElem (by omega)]; rfl
    have h2 := take_at h1
    rw [show l.length - 1 + 1 = l.length by omega, List.take_length] at h2
    exact h2
  have e3 : l.map V.int = (l.take (l.length - 1)).map V.int ++ [.int (l.getD (l.length - 1) 0)] := by
    have := congrArg (List.map V.int) e
    rw [List.map_append] at this
    exact this
  rw [e3]
  exact atI_last _ _
end
theorem nq {p : Prop} [Decidable p] {Q : Bool → Hp → Prop} {H : Hp} (h : p) (q : Q false H) : Q (!decide p) H := by rw [nd h]; exact q
theorem r_eqM {H : Hp} {r q : Addr} {l m : List Int} {n1 n2 : Nat} {Q : VK} (h1 : RowOf K H r l n1) (h2 : RowOf K H q m n2) (k : ∀ H', Same H H' → Q (.bl (decide (l = m))) H') : rOwnI (cR K) (spEqR K) (.ref r) (.ref q) H Q := r_eq (n := max n1 n2) (h1.mono (Nat.le_max_left _ _)) (h2.mono (Nat.le_max_right _ _)) k
mutual
theorem Dp.ext {H H' : Hp} {p : Addr} {k : List (Key × V)} (e : ExtB p H H') (hp : H p = some (.dK k)) : ∀ {d : PyData} {v : V}, Dp K H v d → Dp K H' v d
  | _, _, .non => .non
  | _, _, .bl b => .bl b
  | _, _, .int i => .int i
  | _, _, .str x => .str x
  | _, _, .lst h hs => .lst (e.sqL hp h) (DpAll.ext e hp hs)
  | _, _, .tup h hs => .tup (e.sqT hp h) (DpAll.ext e hp hs)
theorem DpAll.ext {H H' : Hp} {p : Addr} {k : List (Key × V)} (e : ExtB p H H') (hp : H p = some (.dK k)) : ∀ {ds : List PyData} {vs : List V}, DpAll K H vs ds → DpAll K H' vs ds
  | _, _, .nil => .nil
  | _, _, .cons h hs => .cons (Dp.ext e hp h) (DpAll.ext e hp hs)
end
/-- a value that is no place of a row -/
def WrongAt (K : PySem.W.Frag) (H : Hp) (v : V) (c : Int → Prop) (d : PyData) : Prop := Dp K H v d ∧ Rp d ∧ (wholeD d 0 = false ∨ ∃ i : Int, v = .int i ∧ c i)
theorem rp_small : ∀ n, n < 80 → Rp (.int ((n : Nat) : Int)) := by
  have h1 : ∀ n, n < 80 → PyData.canLay0 (.str (PyData.shown (.int (n : Nat)))) = true := by decide +kernel
  have h2 : ∀ n, n < 80 → PyData.showable (.int (n : Nat)) = true := by decide +kernel
  have h3 : ∀ n, n < 80 → (PyData.shown (.int (n : Nat))).length ≤ sizeLine := by decide +kernel
  exact fun n hn => ⟨h2 n hn, rfl, (by intro e; cases e), (by intro ds e; cases e), Nat.zero_le _, h3 n hn, h1 n hn⟩
theorem rp_neg : Rp (.int (-1)) := ⟨by decide +kernel, rfl, (by intro e; cases e), (by intro ds e; cases e), Nat.zero_le _, by decide +kernel, by decide +kernel⟩
theorem rp_far : Rp (.int (10 ^ Int.toNat 30)) := ⟨by decide +kernel, rfl, (by intro e; cases e), (by intro ds e; cases e), Nat.zero_le _, by decide +kernel, by decide +kernel⟩
theorem rp_true : Rp (.bool true) := ⟨by decide +kernel, rfl, (by intro e; cases e), (by intro ds e; cases e), Nat.zero_le _, by decide +kernel, by decide +kernel⟩
theorem rp_non : Rp .none := ⟨by decide +kernel, rfl, (by intro e; cases e), (by intro ds e; cases e), Nat.zero_le _, by decide +kernel, by decide +kernel⟩
theorem rp_str : Rp (.str "0") := ⟨by decide +kernel, rfl, (by intro e; cases e), (by intro ds e; cases e), Nat.zero_le _, by decide +kernel, by decide +kernel⟩
theorem rp_lst : Rp (.list [.int 0]) := ⟨by decide +kernel, rfl, (by intro e; cases e), (by intro ds e; cases e), (by decide +kernel), by decide +kernel, by decide +kernel⟩
theorem wrong1 {H : Hp} {L : Nat} {Z : Addr} (hL : L ≤ 75) (hZ : SqL K H Z [.int 0]) : ∀ (i : Nat) (x : V), [V.int (L : Int), .int (-1), .int (10 ^ Int.toNat 30), .bl true, .non, .str "0", .ref Z][i]? = some x → ∃ d, WrongAt K H x (fun i => (L : Int) ≤ i) d
  | 0, _, e => by cases Option.some.inj e; exact ⟨_, .int _, rp_small L (by omega), .inr ⟨_, rfl, Int.le_refl _⟩⟩
  | 1, _, e => by cases Option.some.inj e; exact ⟨_, .int _, rp_neg, .inl rfl⟩
  | 2, _, e => by cases Option.some.inj e; exact ⟨_, .int _, rp_far, .inr ⟨_, rfl, Int.le_trans (show (L : Int) ≤ 75 by omega) (by decide +kernel)⟩⟩
  | 3, _, e => by cases Option.some.inj e; exact ⟨_, .bl _, rp_true, .inl rfl⟩
  | 4, _, e => by cases Option.some.inj e; exact ⟨_, .non, rp_non, .inl rfl⟩
  | 5, _, e => by cases Option.some.inj e; exact ⟨_, .str _, rp_str, .inl rfl⟩
  | 6, _, e => by cases Option.some.inj e; exact ⟨_, .lst hZ (.cons (.int 0) .nil), rp_lst, .inl rfl⟩
  | i + 7, _, e => by simp at e
theorem wrong2 {H : Hp} {L : Nat} (hL : L ≤ 75) : ∀ (i : Nat) (x : V), [V.int ((L + 1 : Nat) : Int), .int (-1), .int (10 ^ Int.toNat 30), .bl true, .non, .str "0"][i]? = some x → ∃ d, WrongAt K H x (fun i => (L : Int) < i) d
  | 0, _, e => by cases Option.some.inj e; exact ⟨_, .int _, rp_small (L + 1) (by omega), .inr ⟨_, rfl, by omega⟩⟩
  | 1, _, e => by cases Option.some.inj e; exact ⟨_, .int _, rp_neg, .inl rfl⟩
  | 2, _, e => by cases Option.some.inj e; exact ⟨_, .int _, rp_far, .inr ⟨_, rfl, Int.lt_of_lt_of_le (show (L : Int) < 76 by omega) (by decide +kernel)⟩⟩
  | 3, _, e => by cases Option.some.inj e; exact ⟨_, .bl _, rp_true, .inl rfl⟩
  | 4, _, e => by cases Option.some.inj e; exact ⟨_, .non, rp_non, .inl rfl⟩
  | 5, _, e => by cases Option.some.inj e; exact ⟨_, .str _, rp_str, .inl rfl⟩
  | i + 6, _, e => by simp at e
/-- what _law_refused tells -/
theorem shSSB {x y : Str} (h1 : PyData.canLay0 (.str x) = true) (h2 : PyData.canLay0 (.str y) = true) : SeqAt.shaped (.tuple [.str x, .str y, .bool false]) = true := by
  have e1 : PyData.canLay0 (.tuple [.str x, .str y, .bool false]) = true := by
    show (PyData.canLay0 (.str x) && (PyData.canLay0 (.str y) && (PyData.canLay0 (.bool false) && true))) = true
    rw [h1, h2]
    rfl
  have e2 : PyData.depth (.tuple [.str x, .str y, .bool false]) = 1 := rfl
  unfold SeqAt.shaped
  rw [e1, e2]
  rfl
theorem shSIB {x : Str} (i : Int) (h1 : PyData.canLay0 (.str x) = true) : SeqAt.shaped (.tuple [.str x, .int i, .bool false]) = true := by
  have e1 : PyData.canLay0 (.tuple [.str x, .int i, .bool false]) = true := by
    show (PyData.canLay0 (.str x) && (PyData.canLay0 (.int i) && (PyData.canLay0 (.bool false) && true))) = true
    rw [h1]
    rfl
  have e2 : PyData.depth (.tuple [.str x, .int i, .bool false]) = 1 := rfl
  unfold SeqAt.shaped
  rw [e1, e2]
  rfl
theorem shLL {x y : Str} (h1 : PyData.canLay0 (.str x) = true) (h2 : PyData.canLay0 (.str y) = true) : SeqAt.shaped (.list [.tuple [.str x, .str y, .bool false], .tuple [.str x, .str y, .bool false]]) = true := by
  have e0 : PyData.canLay0 (.tuple [.str x, .str y, .bool false]) = true := by
    show (PyData.canLay0 (.str x) && (PyData.canLay0 (.str y) && (PyData.canLay0 (.bool false) && true))) = true
    rw [h1, h2]
    rfl
  have e1 : PyData.canLay0 (.list [.tuple [.str x, .str y, .bool false], .tuple [.str x, .str y, .bool false]]) = true := by
    show (PyData.canLay0 (.tuple [.str x, .str y, .bool false]) && (PyData.canLay0 (.tuple [.str x, .str y, .bool false]) && true)) = true
    rw [e0]
    rfl
  have e2 : PyData.depth (.list [.tuple [.str x, .str y, .bool false], .tuple [.str x, .str y, .bool false]]) = 2 := rfl
  unfold SeqAt.shaped
  rw [e1, e2]
  rfl
theorem dpSSB {H : Hp} {p : Addr} {x y : Str} (h : SqT K H p [.str x, .str y, .bl false]) : Dp K H (.ref p) (.tuple [.str x, .str y, .bool false]) := .tup h (.cons (.str x) (.cons (.str y) (.cons (.bl false) .nil)))
theorem dpSIB {H : Hp} {p : Addr} {x : Str} {i : Int} (h : SqT K H p [.str x, .int i, .bl false]) : Dp K H (.ref p) (.tuple [.str x, .int i, .bool false]) := .tup h (.cons (.str x) (.cons (.int i) (.cons (.bl false) .nil)))
/-- what stays throughout -/
structure Pin (K : PySem.W.Frag) (p c r t : Addr) (b n : Nat) (l : List Int) (H0 H : Hp) : Prop where
  tp : TapeOk H p c b
  rw : RowOf K H r l n
  fl : SqT K H t (l.map V.int)
  tb : Tabs (TS K) H
  ex : ExtB p H0 H
theorem Pin.same {p c r t : Addr} {b n : Nat} {l : List Int} {H0 H H' : Hp} (h : Pin K p c r t b n l H0 H) (s : Same H H') : Pin K p c r t b n l H0 H' :=
  ⟨h.tp.same s, h.rw.same s, Same.seqT s h.fl, h.tb.ext s, h.ex.trans (ExtB.same p s)⟩
theorem Pin.extN {p c r t : Addr} {b n : Nat} {l : List Int} {H0 H H' : Hp} (h : Pin K p c r t b n l H0 H) (s : ExtN H H') (tb : Tabs (TS K) H') : Pin K p c r t b n l H0 H' := by
  obtain ⟨k, hp⟩ := h.tp.dict
  exact ⟨h.tp.extN s, (ExtB.ext p s).row hp h.rw, (ExtB.ext p s).sqT hp h.fl, tb, h.ex.trans (ExtB.ext p s)⟩
theorem Pin.pick {p c r t : Addr} {b b' n : Nat} {l : List Int} {H0 H H' : Hp} (h : Pin K p c r t b n l H0 H) (s : SameBut p H H') (tp : TapeOk H' p c b') : Pin K p c r t b' n l H0 H' := by
  obtain ⟨k, hp⟩ := h.tp.dict
  exact ⟨tp, s.row hp h.rw, s.sqT hp h.fl, Tabs.but h.tb s hp, h.ex.trans (ExtB.but s)⟩

theorem ok__law_parts_right (T : Top K mg) (U : Tb K mg base) : FnOkG PW w K mg base CX0 13 (fa K "_law_parts_right") (fdOf K (fa K "_law_parts_right")) ["_law_tape", "_law_row", "_law_flat"] (spParts K) := by
  refine T.F__law_parts_right.okG sc__law_parts_right (fun vs H Q E h => ?_) (fun A outer s H vs Q E hgd hr h => ?_)
  · obtain ⟨p, c, r, t, b, n, l, rfl, _hT, _hb, _hR, _hn, _hS, _hL, _hTab, _k⟩ := h
    rfl
  · obtain ⟨p, c, r, t, b, n, l, rfl, hT, hb, hR, hn, hS, hL, hTab, k⟩ := h
    have hu := hu_of hr
    obtain ⟨gk, kbp⟩ := plain_kb T
    obtain ⟨dsp, hvp, hbp⟩ := plain_b T
    obtain ⟨dsi, hvi, hbi⟩ := init_b T
    refine ⟨_, (pss_cons (ps_if (PW.pt (pw_or (pt_cmpR op_ne (pe_meth0 (pv 1) T.cl T.m_total (ok_Row_total T) (hr.mono (by decide)) T.b_Row_total .nil pass0) (pe_callB call_len_seq (by rfl) T.z_len (by decide +kernel) (pa_cons (pv 2) pa_nil)) (nomark _)) (pw_or (pt_val (pe_callB call_isi (by rfl) T.z_isinstance (by decide +kernel) (pa_cons (pe_meth0 (pv 1) T.cl T.m_total (ok_Row_total T) (hr.mono (by decide)) T.b_Row_total .nil pass0) (pa_cons (pe_bltn (v := .ty "bool") (by rfl) T.z_bool (by decide +kernel) rfl) pa_nil)))) (pw_or1 (pt_cmpR (op_neD hr.units) (pe_methK0 (pv 1) T.cl T.m_plain (ok_Row_plain T) (hr.mono (by decide)) kbp pass0 (pk_cons (pe_callB call_len_seq (by rfl) T.z_len (by decide +kernel) (pa_cons (pv 2) pa_nil)) pk_nil)) (pv 2) (nomark _)))))) (pss_one (ps_ret pe_bl)) pss_nil)
      (pss_cons (ps_set (i := 3) sc__law_parts_right.nd rfl (Or.inl rfl) (pe_op op_add pe_int (pe_op op_fdiv (pe_callB call_len_seq (by rfl) T.z_len (by decide +kernel) (pa_cons (pv 2) pa_nil)) pe_int)))
      (pss_cons (ps_set (i := 4) sc__law_parts_right.nd rfl (Or.inl rfl) (pe_callTy call_tuple_of (by rfl) T.z_tuple (by decide +kernel) (pa_cons (pe_lc (own := [("_law_k", 12)]) (g := gName 12) (by rfl) sc__law_parts_right.nd (pi_range3 (by rfl) T.z_range (pa_cons pe_int (pa_cons (pe_callB call_len_seq (by rfl) T.z_len (by decide +kernel) (pa_cons (pv 2) pa_nil)) (pa_cons (pv 3) pa_nil)))) (blkOk_by (own := [("_law_k", 12)]) (N := ["_law_tape", "_law_row", "_law_flat", "_law_step", "_law_asked", "_law_at", "_law_cut_here", "_law_one", "_law_other", "_law_wrong", "_law_calls", "_law_many", "_law_k"]) (sc := (defScope s__law_parts_right)) (by decide +kernel)) (fun _ _ _ _ _ => (pg_name (i := 12) sc__law_parts_right.nd rfl (Or.inl rfl))) (fun _ _ _ _ _ => pts_nil) (fun _ _ _ _ _ => (pe_meth (pv 1) T.cl T.m_bud (ok_Row_bud T) (hr.mono (by decide)) T.b_Row_bud .nil pass0 (pa_cons (pv 12) pa_nil)))) pa_nil)))
      (pss_cons (ps_if (PW.pt (pw_or (pt_not (pt_val (pe_callB call_isi (by rfl) T.z_isinstance (by decide +kernel) (pa_cons (pe_meth0 (pv 1) T.cl T.m_plain (ok_Row_plain T) (hr.mono (by decide)) hbp hvp pass0) (pa_cons (pe_bltn (v := .ty "tuple") (by rfl) T.z_tuple (by decide +kernel) rfl) pa_nil))))) (pw_or1 (pt_cmpR (op_neD hr.units) (pv 4) (pe_stepT (pv 2) (pv 3)) (nomark _))))) (pss_one (ps_ret pe_bl)) pss_nil)
      (pss_cons (ps_if (PW.pt (pw_and (pt_cmpR (op_neD hr.units) (pv 2) (pe_tup pa_nil) (nomark _)) (pw_and1 (pt_cmpR op_ne (pe_meth (pv 1) T.cl T.m_bud (ok_Row_bud T) (hr.mono (by decide)) T.b_Row_bud .nil pass0 (pa_cons (pe_op op_sub (pe_callB call_len_seq (by rfl) T.z_len (by decide +kernel) (pa_cons (pv 2) pa_nil)) pe_int) pa_nil)) (pe_ix ix_tup (pv 2) (pe_un un_neg pe_int) (fun _ _ => rfl)) (nomark _))))) (pss_one (ps_ret pe_bl)) pss_nil)
      (pss_cons (ps_set (i := 5) sc__law_parts_right.nd rfl (Or.inl rfl) (pe_call (ok__law_draw T) (hr.mono (by decide)) rfl T.g__law_draw T.F__law_draw.kp T.b__law_draw .nil pass0 (pa_cons (pv 0) (pa_cons (pe_op op_add (pe_callB call_len_seq (by rfl) T.z_len (by decide +kernel) (pa_cons (pv 2) pa_nil)) pe_int) pa_nil))))
      (pss_cons (ps_for PassesOwn.never rfl (pi_list (pe_lst (pa_cons (pv 5) (pa_cons pe_int (pa_cons (pe_callB call_len_seq (by rfl) T.z_len (by decide +kernel) (pa_cons (pv 2) pa_nil)) pa_nil))))) (pg_name (i := 6) sc__law_parts_right.nd rfl (Or.inl rfl)) (pss_cons (ps_par (i := 7) (j := 8) (by rfl) sc__law_parts_right.nd rfl rfl (by decide) rfl rfl (pa_cons (pe_meth (pv 1) T.cl T.m_beginning (ok_Row_beginning T) (hr.mono (by decide)) T.b_Row_beginning .nil pass0 (pa_cons (pv 6) pa_nil)) (pa_cons (pe_meth (pv 1) T.cl T.m_behind (ok_Row_behind T) (hr.mono (by decide)) T.b_Row_behind .nil pass0 (pa_cons (pv 6) pa_nil)) pa_nil)) (by rfl))
      (pss_cons (ps_if (PW.pt (pw_or (pt_cmpR (op_neD hr.units) (pe_call (ok__law_spelled T) (hr.mono (by decide)) rfl T.g__law_spelled T.F__law_spelled.kp T.b__law_spelled .nil pass0 (pa_cons (pe_fld (pv 7) rfl) pa_nil)) (pe_slice sl_tupA (pv 2) po_none (po_some (pv 6))) (nomark _)) (pw_or1 (pt_cmpR (op_neD hr.units) (pe_call (ok__law_spelled T) (hr.mono (by decide)) rfl T.g__law_spelled T.F__law_spelled.kp T.b__law_spelled .nil pass0 (pa_cons (pe_fld (pv 8) rfl) pa_nil)) (pe_slice sl_tupA (pv 2) (po_some (pv 6)) po_none) (nomark _))))) (pss_one (ps_ret pe_bl)) pss_nil)
      (pss_one (ps_if (PW.pt (pw_or (pt_cmpR (op_neD hr.units) (pe_meth0 (pv 7) T.cl T.m_plain (ok_Row_plain T) (hr.mono (by decide)) hbp hvp pass0) (pe_slice sl_tupA (pv 2) po_none (po_some (pv 6))) (nomark _)) (pw_or (pt_cmpR (op_neD hr.units) (pe_meth0 (pv 8) T.cl T.m_plain (ok_Row_plain T) (hr.mono (by decide)) hbp hvp pass0) (pe_slice sl_tupA (pv 2) (po_some (pv 6)) po_none) (nomark _)) (pw_or (pt_cmpR (op_neD hr.units) (pe_meth0 (pe_op (bop_ownI (op := .Add) T.s_first T.m___add__.at_ T.m___add__.fn (ok_Row___add__ T) T.b_Row___add__ (hr.mono (by decide))) (pv 7) (pv 8)) T.cl T.m_plain (ok_Row_plain T) (hr.mono (by decide)) hbp hvp pass0) (pv 2) (nomark _)) (pw_or1 (pt_not (pt_cmpR (op_ownI (op := .Eq) (fun _ _ => rfl) T.m___eq__.at_ T.m___eq__.fn (ok_Row___eq__ T) T.b_Row___eq__ (hr.mono (by decide))) (pe_op (bop_ownI (op := .Add) T.s_first T.m___add__.at_ T.m___add__.fn (ok_Row___add__ T) T.b_Row___add__ (hr.mono (by decide))) (pv 7) (pv 8)) (pv 1) (nomark _)))))))) (pss_one (ps_ret pe_bl)) pss_nil)))))
      (pss_cons (ps_set (i := 9) sc__law_parts_right.nd rfl (Or.inr rfl) (pe_call (okV__law_pick T) (hr.mono (by decide)) rfl T.g__law_pick T.F__law_pick.kp T.b__law_pick .nil pass0 (pa_cons (pv 0) (pa_cons (pe_lst (pa_cons (pe_callB call_len_seq (by rfl) T.z_len (by decide +kernel) (pa_cons (pv 2) pa_nil)) (pa_cons (pe_un un_neg pe_int) (pa_cons (pe_op op_pow pe_int pe_int) (pa_cons pe_bl (pa_cons pe_non (pa_cons pe_str (pa_cons (pe_lst (pa_cons pe_int pa_nil)) pa_nil)))))))) pa_nil))))
      (pss_cons (ps_if (pt_cmpR (op_neD hr.units) (pe_refused (k := 10) (Ts := TS K) T (by exact hgd) rfl U.b_parts rfl Tb.mP U.uP (hr.mono (by decide)) (lamS_by (show lamSB (defScope s__law_parts_right) _ = true by decide +kernel)) rfl (fun _ _ _ _ _ => rfl) (fun A outer s H E f c2 hr2 => (pe_meth (pv 1) T.cl T.m_bud (okO_bud T) (hr2.mono (by decide)) T.b_Row_bud .nil (passes_call (takes_of rfl rfl rfl rfl) (fun _ _ _ _ h => h)) (pa_cons (pv 9) pa_nil)))) (pe_tup (pa_cons pe_str (pa_cons (pe_callB (call_reprN (by exact hgd) (by exact Room.u70 hr)) (by rfl) T.z_repr (by decide +kernel) (pa_cons (pv 9) pa_nil)) (pa_cons pe_bl pa_nil)))) (nomark _)) (pss_one (ps_ret pe_bl)) pss_nil)
      (pss_cons (ps_set (i := 9) sc__law_parts_right.nd rfl (Or.inr rfl) (pe_call (okV__law_pick T) (hr.mono (by decide)) rfl T.g__law_pick T.F__law_pick.kp T.b__law_pick .nil pass0 (pa_cons (pv 0) (pa_cons (pe_lst (pa_cons (pe_op op_add (pe_callB call_len_seq (by rfl) T.z_len (by decide +kernel) (pa_cons (pv 2) pa_nil)) pe_int) (pa_cons (pe_un un_neg pe_int) (pa_cons (pe_op op_pow pe_int pe_int) (pa_cons pe_bl (pa_cons pe_non (pa_cons pe_str pa_nil))))))) pa_nil))))
      (pss_cons (ps_set (i := 10) sc__law_parts_right.nd rfl (Or.inl rfl) (pe_lst (pa_cons (pe_refused (k := 10) (Ts := TS K) T (by exact hgd) rfl U.b_parts rfl Tb.mP U.uP (hr.mono (by decide)) (lamS_by (show lamSB (defScope s__law_parts_right) _ = true by decide +kernel)) rfl (fun _ _ _ _ _ => rfl) (fun A outer s H E f c2 hr2 => (pe_meth (pv 1) T.cl T.m_beginning (okO_beginning T) (hr2.mono (by decide)) T.b_Row_beginning .nil (passes_call (takes_of rfl rfl rfl rfl) (fun _ _ _ _ h => h)) (pa_cons (pv 9) pa_nil)))) (pa_cons (pe_refused (k := 10) (Ts := TS K) T (by exact hgd) rfl U.b_parts rfl Tb.mP U.uP (hr.mono (by decide)) (lamS_by (show lamSB (defScope s__law_parts_right) _ = true by decide +kernel)) rfl (fun _ _ _ _ _ => rfl) (fun A outer s H E f c2 hr2 => (pe_meth (pv 1) T.cl T.m_behind (okO_behind T) (hr2.mono (by decide)) T.b_Row_behind .nil (passes_call (takes_of rfl rfl rfl rfl) (fun _ _ _ _ h => h)) (pa_cons (pv 9) pa_nil)))) pa_nil))))
      (pss_cons (ps_if (pt_cmpR (op_neD hr.units) (pv 10) (pe_op op_rep (pe_lst (pa_cons (pe_tup (pa_cons pe_str (pa_cons (pe_callB (call_reprN (by exact hgd) (by exact Room.u70 hr)) (by rfl) T.z_repr (by decide +kernel) (pa_cons (pv 9) pa_nil)) (pa_cons pe_bl pa_nil)))) pa_nil)) pe_int) (nomark _)) (pss_one (ps_ret pe_bl)) pss_nil)
      (pss_cons (ps_set (i := 11) sc__law_parts_right.nd rfl (Or.inr rfl) (pe_op op_sub (pe_callB call_len_seq (by rfl) T.z_len (by decide +kernel) (pa_cons (pv 2) pa_nil)) pe_int))
      (pss_one (ps_ret (pe_or (pe_cmpR (op_eqD hr.units) (pv 2) (pe_tup pa_nil) (nomark _)) (pe_one (pe_cmpR (op_eqD hr.units) (pe_refused (k := 10) (Ts := TS K) T (by exact hgd) rfl U.b_parts rfl Tb.mP U.uP (hr.mono (by decide)) (lamS_by (show lamSB (defScope s__law_parts_right) _ = true by decide +kernel)) rfl (fun _ _ _ _ _ => rfl) (fun A outer s H E f c2 hr2 => (pe_methK0 (pv 1) T.cl T.m_plain (okx_plain T) (hr2.mono (by decide)) kbp (passes_call (takes_of rfl rfl rfl rfl) (fun _ _ _ _ h => h)) (pk_cons (pv 11) pk_nil)))) (pe_tup (pa_cons pe_str (pa_cons (pv 11) (pa_cons pe_bl pa_nil)))) (nomark _))))))))))))))))))), ?_⟩
    obtain ⟨kd, hd0⟩ := hT.dict
    have hL75 := hL
    refine if_noS (fun H1 => Same H H1) (fun Q1 k1 => ?_) (fun H1 s1 => ?_)
    · refine ⟨_, rfl, m_total hR fun H2 s2 => ⟨_, rfl, t, _, rfl, .inr (Same.seqT s2 hS), rfl, _, rfl, ifF (nd (by rw [List.length_map])) ?_⟩⟩
      refine ⟨_, rfl, m_total (hR.same s2) fun H3 s3 => tcI ⟨_, _, _, _, false, rfl, .ty _, .base (.int _), kit_ty (by decide +kernel), _, rfl, ifF rfl ?_⟩⟩
      have s23 := s2.trans s3
      obtain ⟨dxr, Tr, er⟩ := (hR.same s23).ins
      refine ⟨_, rfl, r, dxr, _, rfl, er, rfl, ?_⟩
      refine ⟨_, rfl, t, _, rfl, .inr (Same.seqT s23 hS), rfl, r, l, n, _, rfl, hR.same s23, by rw [List.length_map]; exact Nat.le_refl _, by rw [List.length_map]; omega, fun q H4 s4 h4 => ?_⟩
      exact ⟨_, rfl, ne_T h4 (Same.seqT (s23.trans s4) hS) ⟨_, rfl, k1 _ (s23.trans s4)⟩⟩
    obtain ⟨kk, hkk⟩ : ∃ kk, kk = 1 + l.length / 12 := ⟨_, rfl⟩
    refine ⟨_, rfl, t, _, rfl, .inr (Same.seqT s1 hS), tcI (iC ⟨by omega, by omega⟩ (v := .int ((l.length / 12 : Nat) : Int)) (by rw [List.length_map]; exact congrArg V.int (div_nat _ _)) (i0 (v := .int (kk : Int)) (by rw [hkk]; push_cast; rfl) ?_))⟩
    have hk1 : 1 ≤ kk := by omega
    refine ⟨_, rfl, t, _, rfl, .inr (Same.seqT s1 hS), _, rfl, 0, _, _, HT.stepN l.length kk, rfl, (by rw [List.length_map, hkk]; exact rgc75 l.length (by omega)), fun D hD => ?_⟩
    refine lc_rangeC (fun i H3 => Same H1 H3 ∧ H3 D = some (.lst (((List.range i).map fun m => l.getD (m * kk) 0).map V.int))) ⟨same_upd hD, upd_same⟩ ?_ ?_
    · rintro i H3 hi ⟨s3, hD3⟩
      refine ⟨rfl, ?_⟩
      have ei : (0 : Int) + (i : Int) * (kk : Int) = ((i * kk : Nat) : Int) := by push_cast; rw [Int.zero_add]
      have hil := HT.stepN_lt hk1 hi
      have hR3 := hR.same (s1.trans s3)
      refine ⟨_, rfl, m_at hR3 (fun _ => rfl) ⟨_, rfl, r, l, n, i * kk, l.getD (i * kk) 0, congrArg (fun z => [V.ref r, V.int z]) ei, hR3, (by rw [List.getD_eq_getElem?_getD, List.getElem?_eq_getElem hil]; rfl), fun H4 s4 => ?_⟩⟩
      refine ⟨_, s4 _ _ hD3, (by rw [List.length_map, List.length_map, List.length_range, sizeLine_eq]; have : i ≤ i * kk := Nat.le_mul_of_pos_right _ hk1; omega), same_at hD (s3.trans s4), ?_⟩
      rw [upd_same, List.range_succ, List.map_append, List.map_append]
      rfl
    rintro H3 ⟨s3, hD3⟩
    rw [← HT.stepL_get l kk hk1] at hD3
    refine ⟨D, _, rfl, .inl ⟨SqL.of hD3, fun ask hask => ?_⟩⟩
    have s4 := s1.trans (s3.trans (same_upd (o := .tup ((HT.stepL l kk).map V.int)) hask))
    have hA4 : SqT K (upd H3 ask (.tup ((HT.stepL l kk).map V.int))) ask ((HT.stepL l kk).map V.int) := SqT.of upd_same
    generalize upd H3 ask (.tup ((HT.stepL l kk).map V.int)) = H4 at s4 hA4 ⊢
    dsimp only
    refine if_noS (fun H5 => Same H4 H5) (fun Q1 k1 => ?_) (fun H5 s5 => ?_)
    · refine ⟨_, rfl, m_plain (hR.same s4) (by omega) fun q H5 s5 h5 => tcI ⟨_, _, _, _, true, rfl, .ty _, ty_tup h5, kit_ty (by decide +kernel), _, rfl, ifF rfl ?_⟩⟩
      refine ⟨_, rfl, _, rfl, _, rfl, _, rfl, t, _, kk, rfl, rfl, hk1, Same.seqT (s4.trans s5) hS, fun e => ?_, fun _ z hz => ?_⟩
      · have h6 := Same.seqT (s4.trans s5) hS
        rw [← stepL_one l, ← e] at h6
        exact ne_T (Same.seqT s5 hA4) h6 ⟨_, rfl, k1 _ s5⟩
      · have s6 := same_upd (o := .tup (HT.stepL (l.map V.int) kk)) hz
        exact ne_T (Same.seqT (s5.trans s6) hA4) (SqT.of (by rw [upd_same, HT.stepL_map])) ⟨_, rfl, k1 _ (s5.trans s6)⟩
    have s05 := s4.trans s5
    refine if_noS (fun H6 => Same H5 H6) (fun Q1 k1 => ?_) (fun H6 s6 => ?_)
    · refine ⟨_, rfl, Nat.zero_le _, fun z hz => ?_⟩
      have sz := same_upd (o := .tup []) hz
      refine neT (b := []) (Same.seqT (s05.trans sz) hS) (SqT.of upd_same) ⟨_, rfl, ?_⟩
      by_cases c0 : l = []
      · exact ifF (nd c0) (k1 _ sz)
      · refine ifT (nn c0) ?_
        have hpos : 0 < l.length := List.length_pos_iff.mpr c0
        have hR6 := hR.same (s05.trans sz)
        refine ⟨_, rfl, m_at hR6 (fun _ => rfl) ⟨_, rfl, t, _, rfl, .inr (Same.seqT (s05.trans sz) hS), tcI (i0 (v := .int ((l.length - 1 : Nat) : Int)) (by rw [List.length_map]; exact congrArg V.int (by omega)) ⟨r, l, n, l.length - 1, l.getD (l.length - 1) 0, rfl, hR6, (by rw [List.getD_eq_getElem?_getD, List.getElem?_eq_getElem (by omega)]; rfl), fun H7 s7 => ?_⟩)⟩⟩
        refine ⟨_, rfl, _, rfl, t, _, _, _, rfl, rfl, Same.seqT ((s05.trans sz).trans s7) hS, last_at hpos, rfl, _, rfl, nq rfl (k1 _ (sz.trans s7))⟩
    have s06 := s05.trans s6
    have hS6 := Same.seqT s06 hS
    have hR6 := hR.same s06
    refine ⟨_, rfl, _, rfl, t, _, rfl, .inr hS6, tcI (i0 (v := .int ((l.length + 1 : Nat) : Int)) (by rw [List.length_map]; exact congrArg V.int (by omega)) ⟨p, c, b, _, rfl, hT.same s06, by omega, lim_small (by omega) (by omega), fun at1 H7 a1 a2 s7 t7 => ?_⟩)⟩
    obtain ⟨at2, rfl⟩ := Int.eq_ofNat_of_zero_le a1
    obtain ⟨kd6, hd6⟩ := (hT.same s06).dict
    obtain ⟨kd7, hd7⟩ := t7.dict
    have hS7 := s7.sqT hd6 hS6
    have hR7 := s7.row hd6 hR6
    refine ⟨_, rfl, ⟨_, rfl, t, _, rfl, .inr hS7, Nat.le_of_ble_eq_true rfl, fun L hL => ?_⟩⟩
    have s8 := same_upd (o := .lst [.int (at2 : Int), .int 0, .int ((l.map V.int).length : Int)]) hL
    refine ⟨L, rfl, ⟨_, SqL.of upd_same⟩, for_list (K := K) (a := L) (xs := [.int (at2 : Int), .int 0, .int ((l.map V.int).length : Int)]) (fun i σ H9 => Same H7 H9 ∧ ∃ (o6 o7 o8 : Option V), σ = [some (.ref p), some (.ref r), some (.ref t), some (.int (kk : Int)), some (.ref ask), some (.int (at2 : Int)), o6, o7, o8, none, none, none, none] ∧ H9 L = some (.lst [.int (at2 : Int), .int 0, .int ((l.map V.int).length : Int)])) ⟨s8, _, _, _, rfl, upd_same⟩ (fun i σ H9 _ ⟨_, _, _, _, _, e⟩ => SqL.of e) ?_ ?_⟩
    · rintro i x σ H9 hi ⟨s9, o6, o7, o8, rfl, hL9⟩
      obtain ⟨ct, rfl, hct⟩ : ∃ ct : Nat, x = .int (ct : Int) ∧ ct ≤ l.length := by
        match i, hi with
        | 0, hi => exact ⟨at2, (Option.some.inj hi).symm, by omega⟩
        | 1, hi => exact ⟨0, (Option.some.inj hi).symm, by omega⟩
        | 2, hi => exact ⟨l.length, by rw [← Option.some.inj hi, List.length_map], by omega⟩
        | i + 3, hi => simp at hi
      have hR9 := hR7.same s9
      have hS9 := Same.seqT s9 hS7
      refine ⟨_, rfl, m_at hR9 (fun _ => rfl) ⟨_, rfl, r, l, n, ct, rfl, hR9, by omega, hct, fun one H10 s10 f10 r10 => ?_⟩⟩
      have hR10 := hR9.same s10
      refine ⟨_, rfl, m_at hR10 (fun _ => rfl) ⟨_, rfl, r, l, n, ct, rfl, hR10, by omega, hct, fun oth H11 s11 f11 r11 => ⟨_, _, rfl, ?_⟩⟩⟩
      have hS11 := Same.seqT (s10.trans s11) hS9
      have r10 := r10.same s11
      have hR11 := hR10.same s11
      have ltk : (l.take ct).length ≤ 1000 := by rw [List.length_take]; omega
      have ldr : (l.drop ct).length ≤ 1000 := by rw [List.length_drop]; omega
      dsimp only
      refine if_noS (fun H12 => Same H11 H12) (fun Q1 k1 => ?_) (fun H12 s12 => ?_)
      · obtain ⟨dx1, T1, e1, sp1⟩ := spell_at r10 ltk
        refine ⟨_, rfl, one, _, dx1, _, _, rfl, e1, T.cl, T.nS, rfl, nilI (sp1 _ _ fun q1 H12 s12 h12 => ?_)⟩
        refine ⟨_, rfl, _, rfl, _, rfl, slA_take (Same.seqT s12 hS11) fun q2 H13 s13 h13 => ?_⟩
        rw [← List.map_take] at h13
        refine ne_T (Same.seqT s13 h12) h13 ⟨_, rfl, ifF rfl ?_⟩
        have s1213 := s12.trans s13
        obtain ⟨dx2, T2, e2, sp2⟩ := spell_at (r11.same s1213) ldr
        refine ⟨_, rfl, oth, _, dx2, _, _, rfl, e2, T.cl, T.nS, rfl, nilI (sp2 _ _ fun q3 H14 s14 h14 => ?_)⟩
        refine ⟨_, rfl, _, rfl, _, rfl, noPart (slA_drop (Same.seqT (s1213.trans s14) hS11) fun q4 H15 s15 h15 => ?_)⟩
        rw [← List.map_drop] at h15
        exact ne_T (Same.seqT s15 h14) h15 ⟨_, rfl, k1 _ (s1213.trans (s14.trans s15))⟩
      have r12 := r10.same s12
      have o12 := r11.same s12
      have hS12 := Same.seqT s12 hS11
      have hR12 := hR11.same s12
      refine if_no (fun H13 => Same H12 H13) (fun Q1 k1 => ?_) (fun H13 s13 => ?_)
      · refine ⟨_, rfl, m_plain r12 (by omega) fun q1 H13 s13 h13 => ?_⟩
        refine ⟨_, rfl, _, rfl, _, rfl, slA_take (Same.seqT s13 hS12) fun q2 H14 s14 h14 => ?_⟩
        rw [← List.map_take] at h14
        refine ne_T (Same.seqT s14 h13) h14 ⟨_, rfl, ifF rfl ?_⟩
        have s34 := s13.trans s14
        refine ⟨_, rfl, m_plain (o12.same s34) (by omega) fun q3 H15 s15 h15 => ?_⟩
        refine ⟨_, rfl, _, rfl, _, rfl, noPart (slA_drop (Same.seqT (s34.trans s15) hS12) fun q4 H16 s16 h16 => ?_)⟩
        rw [← List.map_drop] at h16
        refine ne_T (Same.seqT s16 h15) h16 ⟨_, rfl, ifF rfl ?_⟩
        have s36 := s34.trans (s15.trans s16)
        refine ⟨_, rfl, _, rfl, r_add (r12.same s36) (o12.same s36) (by omega) fun z1 H17 s17 f17 h17 => ?_⟩
        rw [List.take_append_drop] at h17
        refine m_plain h17 (by omega) fun q5 H18 s18 h18 => ?_
        refine ⟨_, rfl, ne_T h18 (Same.seqT (s36.trans (s17.trans s18)) hS12) ⟨_, rfl, ifF rfl ?_⟩⟩
        have s38 := s36.trans (s17.trans s18)
        refine ⟨_, rfl, _, rfl, r_add (r12.same s38) (o12.same s38) (by omega) fun z2 H19 s19 f19 h19 => ?_⟩
        rw [List.take_append_drop] at h19
        refine ⟨_, rfl, r_eqM h19 (hR12.same (s38.trans s19)) fun H20 s20 => ⟨_, rfl, nq rfl (k1 _ (s38.trans (s19.trans s20)))⟩⟩
      have sAll := s10.trans (s11.trans (s12.trans s13))
      exact ⟨s9.trans sAll, _, _, _, rfl, sAll _ _ hL9⟩
    · rintro σ H9 ⟨s9, o6, o7, o8, rfl, hL9⟩
      have P7 : Pin K p c r t (b + 1) n l H H7 := ⟨t7, hR7, hS7, Tabs.but (hTab.ext s06) s7 hd6, (ExtB.same p s06).trans (ExtB.but s7)⟩
      have P9 := P7.same s9
      refine ⟨_, rfl, ⟨_, rfl, t, _, rfl, .inr P9.fl, _, rfl, _, _, rfl, rfl, ⟨by decide, by decide, by decide⟩, ?_⟩⟩
      refine ⟨Nat.le_of_ble_eq_true rfl, fun Z hZ => ⟨Nat.le_of_ble_eq_true rfl, fun L2 hL2 => ?_⟩⟩
      have sZ := (same_upd (o := .lst [.int 0]) hZ).trans (same_upd (o := .lst [.int ((l.map V.int).length : Int), .int (-1), .int (10 ^ Int.toNat 30), .bl true, .non, .str "0", .ref Z]) hL2)
      have P10 := P9.same sZ
      have hZ10 := Same.seq (same_upd (o := .lst [.int ((l.map V.int).length : Int), .int (-1), .int (10 ^ Int.toNat 30), .bl true, .non, .str "0", .ref Z]) hL2) (SqL.of (K := K) (upd_same (H := H9) (a := Z) (o := .lst [.int 0])))
      refine ⟨p, c, L2, b + 1, _, rfl, P10.tp, by omega, SqL.of upd_same, Nat.le_of_ble_eq_true rfl, Nat.le_of_ble_eq_true rfl, fun iw x H11 hx s11 t11 => ?_⟩
      rw [List.length_map] at hx
      obtain ⟨d1, w1⟩ := wrong1 hL75 hZ10 iw x hx
      have P11 := P10.pick s11 t11
      obtain ⟨kd10, hd10⟩ := P10.tp.dict
      have w11 := Dp.ext (ExtB.but s11) hd10 w1.1
      obtain ⟨_, rp1, wc1⟩ := w1
      dsimp only
      refine if_noS (fun H12 => Pin K p c r t (b + 1 + 1) n l H H12) (fun Q1 k1 => ?_) (fun H12 P12 => ?_)
      · obtain ⟨kd11, hd11⟩ := P11.tp.dict
        refine ⟨P11.tb, fun H12 e12 t12 p0 hp0 => ?_⟩
        have P12 := P11.extN e12 t12
        have w12 := Dp.ext (ExtB.ext p e12) hd11 w11
        have s13 := same_upd (o := .tup [.str "fine", .non, .bl false]) hp0
        have P13 := P12.same s13
        have w13 := Dp.same s13 w12
        refine ⟨_, rfl, m_at P13.rw (fun _ => rfl) ⟨_, rfl, r, l, n, x, d1, rfl, P13.rw, w13, wc1, fun dd H14 s14 hdd => .inr (.inl ⟨rfl, dd, x, rfl, hdd, ⟨x, d1, rfl, Dp.same s14 w13, rp1.s, rp1.h, rp1.l, rp1.t, rp1.dp, rp1.z, fun q1 hq1 => ?_⟩, trivial⟩)⟩⟩
        have s15 := same_upd (o := .tup [.str "outside", .str (PyData.shown d1), .bl false]) hq1
        have s145 := s14.trans s15
        refine ⟨_, rfl, x, d1, rfl, Dp.same s145 w13, rp1.s, rp1.h, rp1.l, rp1.t, rp1.dp, rp1.z, Nat.le_of_ble_eq_true rfl, fun q2 hq2 => ?_⟩
        have s16 := same_upd (o := .tup [.str "outside", .str (PyData.shown d1), .bl false]) hq2
        exact ne_same (dpSSB (SqT.of (s16 _ _ upd_same))) (dpSSB (SqT.of upd_same)) (shSSB (by decide +kernel) rp1.o) ⟨_, rfl, k1 _ (P13.same (s145.trans s16))⟩
      refine ⟨_, rfl, ⟨_, rfl, t, _, rfl, .inr P12.fl, tcI (i0 (v := .int ((l.length + 1 : Nat) : Int)) (by rw [List.length_map]; exact congrArg V.int (by omega)) ⟨_, rfl, _, _, rfl, rfl, ⟨by decide, by decide, by decide⟩, Nat.le_of_ble_eq_true rfl, fun L3 hL3 => ?_⟩)⟩⟩
      have s13 := same_upd (o := .lst [.int ((l.length + 1 : Nat) : Int), .int (-1), .int (10 ^ Int.toNat 30), .bl true, .non, .str "0"]) hL3
      have P13 := P12.same s13
      refine ⟨p, c, L3, b + 1 + 1, _, rfl, P13.tp, by omega, SqL.of upd_same, Nat.le_of_ble_eq_true rfl, Nat.le_of_ble_eq_true rfl, fun iw2 x2 H14 hx2 s14 t14 => ?_⟩
      obtain ⟨d2, w2⟩ := wrong2 (K := K) (H := upd H12 L3 (.lst [.int ((l.length + 1 : Nat) : Int), .int (-1), .int (10 ^ Int.toNat 30), .bl true, .non, .str "0"])) hL75 iw2 x2 hx2
      have P14 := P13.pick s14 t14
      obtain ⟨kd13, hd13⟩ := P13.tp.dict
      have w14 := Dp.ext (ExtB.but s14) hd13 w2.1
      obtain ⟨_, rp2, wc2⟩ := w2
      obtain ⟨kd14, hd14⟩ := P14.tp.dict
      refine ⟨P14.tb, fun H15 e15 t15 p0 hp0 => ?_⟩
      have P15 := P14.extN e15 t15
      have w15 := Dp.ext (ExtB.ext p e15) hd14 w14
      have s16 := same_upd (o := .tup [.str "fine", .non, .bl false]) hp0
      have P16 := P15.same s16
      have w16 := Dp.same s16 w15
      refine ⟨_, rfl, m_at P16.rw (fun _ => rfl) ⟨_, rfl, r, l, n, x2, d2, rfl, P16.rw, w16, wc2, fun dd H17 s17 hdd => .inr (.inl ⟨rfl, dd, x2, rfl, hdd, ⟨x2, d2, rfl, Dp.same s17 w16, rp2.s, rp2.h, rp2.l, rp2.t, rp2.dp, rp2.z, fun q1 hq1 => ?_⟩, trivial⟩)⟩⟩
      have s18 := same_upd (o := .tup [.str "outside", .str (PyData.shown d2), .bl false]) hq1
      have P18 := P16.same (s17.trans s18)
      have w18 := Dp.same (s17.trans s18) w16
      obtain ⟨kd18, hd18⟩ := P18.tp.dict
      have g18 : SqT K (upd H17 q1 (.tup [.str "outside", .str (PyData.shown d2), .bl false])) q1 [.str "outside", .str (PyData.shown d2), .bl false] := SqT.of upd_same
      refine ⟨P18.tb, fun H19 e19 t19 p1 hp1 => ?_⟩
      have P19 := P18.extN e19 t19
      have w19 := Dp.ext (ExtB.ext p e19) hd18 w18
      have g19 := (ExtB.ext p e19).sqT hd18 g18
      have s20 := same_upd (o := .tup [.str "fine", .non, .bl false]) hp1
      have P20 := P19.same s20
      have w20 := Dp.same s20 w19
      refine ⟨_, rfl, m_at P20.rw (fun _ => rfl) ⟨_, rfl, r, l, n, x2, d2, rfl, P20.rw, w20, wc2, fun dd2 H21 s21 hdd2 => .inr (.inl ⟨rfl, dd2, x2, rfl, hdd2, ⟨x2, d2, rfl, Dp.same s21 w20, rp2.s, rp2.h, rp2.l, rp2.t, rp2.dp, rp2.z, fun q2 hq2 => ?_⟩, trivial⟩)⟩⟩
      have s22 := same_upd (o := .tup [.str "outside", .str (PyData.shown d2), .bl false]) hq2
      have s202 := s20.trans (s21.trans s22)
      refine ⟨Nat.le_of_ble_eq_true rfl, fun LC hLC => ?_⟩
      have s23 := same_upd (o := .lst [.ref q1, .ref q2]) hLC
      have P23 := P20.same (s21.trans (s22.trans s23))
      have w23 := Dp.same (s21.trans (s22.trans s23)) w20
      have g1 := Same.seqT (s202.trans s23) g19
      have g2 : SqT K (upd (upd H21 q2 (.tup [.str "outside", .str (PyData.shown d2), .bl false])) LC (.lst [.ref q1, .ref q2])) q2 [.str "outside", .str (PyData.shown d2), .bl false] := SqT.of (s23 _ _ upd_same)
      have gL : SqL K (upd (upd H21 q2 (.tup [.str "outside", .str (PyData.shown d2), .bl false])) LC (.lst [.ref q1, .ref q2])) LC [.ref q1, .ref q2] := SqL.of upd_same
      generalize upd (upd H21 q2 (.tup [.str "outside", .str (PyData.shown d2), .bl false])) LC (.lst [.ref q1, .ref q2]) = H23 at P23 w23 g1 g2 gL ⊢
      dsimp only
      refine if_noS (fun H24 => Pin K p c r t (b + 1 + 1 + 1) n l H H24) (fun Q1 k1 => ?_) (fun H24 P24 => ?_)
      · refine ⟨_, rfl, ⟨_, rfl, x2, d2, rfl, w23, rp2.s, rp2.h, rp2.l, rp2.t, rp2.dp, rp2.z, Nat.le_of_ble_eq_true rfl, fun q3 hq3 => ⟨Nat.le_of_ble_eq_true rfl, fun LD hLD => ?_⟩⟩⟩
        have s24 := same_upd (o := .tup [.str "outside", .str (PyData.shown d2), .bl false]) hq3
        have s25 := same_upd (o := .lst [.ref q3]) hLD
        refine ⟨LD, 2, _, rfl, rfl, upd_same, by omega, by omega, (by rw [sizeLine_eq]; show 1 * 2 ≤ _; omega), fun LE hLE => ?_⟩
        have s26 := same_upd (o := .lst (List.replicate (2 : Int).toNat [V.ref q3]).flatten) hLE
        have s246 := s24.trans (s25.trans s26)
        have g3 : SqT K (upd (upd (upd H23 q3 (.tup [.str "outside", .str (PyData.shown d2), .bl false])) LD (.lst [.ref q3])) LE (.lst (List.replicate (2 : Int).toNat [V.ref q3]).flatten)) q3 [.str "outside", .str (PyData.shown d2), .bl false] := SqT.of ((s25.trans s26) _ _ upd_same)
        refine ne_same (.lst (s246.seq gL) (.cons (dpSSB (Same.seqT s246 g1)) (.cons (dpSSB (Same.seqT s246 g2)) .nil))) (.lst (SqL.of (xs := [.ref q3, .ref q3]) upd_same) (.cons (dpSSB g3) (.cons (dpSSB g3) .nil))) (shLL (by decide +kernel) rp2.o) ⟨_, rfl, k1 _ (P23.same s246)⟩
      refine ⟨_, rfl, t, _, rfl, .inr P24.fl, tcI (i0 (v := .int ((l.length : Int) - 1)) (by rw [List.length_map]) ?_)⟩
      refine ⟨_, rfl, Nat.zero_le _, fun z hz => ?_⟩
      have s25 := same_upd (o := .tup []) hz
      have P25 := P24.same s25
      refine eqT (b := []) P25.fl (SqT.of upd_same) ⟨_, rfl, ?_⟩
      by_cases c0 : l = []
      · exact ifT (decide_eq_true c0) (k _ P25.ex (P25.tp.mono (by omega)) P25.tb)
      refine ifF (decide_eq_false c0) ?_
      have hpos : 0 < l.length := List.length_pos_iff.mpr c0
      refine ⟨P25.tb, fun H26 e26 t26 p2 hp2 => ?_⟩
      have P26 := P25.extN e26 t26
      have s27 := same_upd (o := .tup [.str "fine", .non, .bl false]) hp2
      have P27 := P26.same s27
      obtain ⟨dxr, Tr, er⟩ := P27.rw.ins
      have em : (l.length : Int) - 1 = ((l.length - 1 : Nat) : Int) := by omega
      refine ⟨_, rfl, r, dxr, _, rfl, er, rfl, ⟨_, rfl, rfl, r, l, n, l.length - 1, congrArg (fun z => [V.ref r, V.int z]) em, P27.rw, by omega, fun dd H28 s28 hdd => .inr (.inr ⟨rfl, dd, _, rfl, hdd, fun q5 hq5 => ?_⟩)⟩⟩
      have s29 := same_upd (o := .tup [.str "many", .int ((l.length - 1 : Nat) : Int), .bl false]) hq5
      refine ⟨_, rfl, Nat.le_of_ble_eq_true rfl, fun q6 hq6 => ?_⟩
      have s30 := same_upd (o := .tup [.str "many", .int ((l.length : Int) - 1), .bl false]) hq6
      have P30 := P27.same (s28.trans (s29.trans s30))
      have g6 : SqT K (upd (upd H28 q5 (.tup [.str "many", .int ((l.length - 1 : Nat) : Int), .bl false])) q6 (.tup [.str "many", .int ((l.length : Int) - 1), .bl false])) q6 [.str "many", .int ((l.length - 1 : Nat) : Int), .bl false] := SqT.of (by rw [upd_same, em])
      exact eq_same (dpSIB (SqT.of (s30 _ _ upd_same))) (dpSIB g6) (shSIB _ (by decide +kernel)) (k _ P30.ex (P30.tp.mono (by omega)) P30.tb)
end
end R4
set_option Elab.async false
set_option linter.all false
set_option maxRecDepth 100000
set_option maxHeartbeats 4000000
namespace R4
open PySem L2 PySem.GW
open RM (Rn)
section
variable {w : World} {K : PySem.W.Frag} {mg : Str → Option Value} {base : Heap}

open LamX
set_option pp.maxSteps 700
def spPair (K : PySem.W.Frag) : Sp := fun vs H Q _ => ∃ (p c r t o : Addr) (b n : Nat) (l m : List Int), vs = [.ref p, .ref r, .ref t, .ref o] ∧ TapeOk H p c b ∧ b ≤ 1000000 ∧ RowOf K H r l n ∧ n ≤ 1000 ∧ SqT K H t (l.map V.int) ∧ SqT K H o (m.map V.int) ∧ l.length ≤ 75 ∧ m.length ≤ 75 ∧ Lt4 m ∧ ∀ H', SameBut p H H' → TapeOk H' p c (b + 150) → Q (.bl true) H'
theorem bef_lex : ∀ l m : List Int, befB l m = HT.lexLt l m
  | [], [] => rfl
  | [], y :: m => by
    unfold befB
    rw [RM.lcp_nil_left, if_neg (by simp)]
    rfl
  | x :: l, [] => by
    unfold befB
    rw [RM.lcp_nil_right]
    rfl
  | x :: l, y :: m => by
    rw [HT.lexLt_cons, ← bef_lex l m]
    unfold befB
    by_cases h : x = y
    · have e : RM.lcp (x :: l) (y :: m) = RM.lcp l m + 1 := by
        show (if x = y then RM.lcp l m + 1 else 0) = _
        rw [if_pos h]
      rw [e, if_pos h, List.length_cons, List.length_cons]
      by_cases h1 : RM.lcp l m = m.length
      · rw [if_pos (by omega), if_pos h1]
      · rw [if_neg (by omega), if_neg h1]
        by_cases h2 : RM.lcp l m = l.length
        · rw [if_pos (by omega), if_pos h2]
        · rw [if_neg (by omega), if_neg h2, List.getD_cons_succ, List.getD_cons_succ]
    · have e : RM.lcp (x :: l) (y :: m) = 0 := by
        show (if x = y then RM.lcp l m + 1 else 0) = _
        rw [if_neg h]
      rw [e, if_neg h, if_neg (by simp), if_neg (by simp)]
      rfl
theorem lcp_takes : ∀ (k : Nat) (l m : List Int), k < l.length → k < m.length → (l.take (k + 1) = m.take (k + 1) ↔ k < RM.lcp l m)
  | _, [], _, h, _ => by simp at h
  | _, _ :: _, [], _, h => by simp at h
  | 0, x :: l, y :: m, _, _ => by
    show [x] = [y] ↔ 0 < (if x = y then RM.lcp l m + 1 else 0)
    by_cases h : x = y
    · rw [if_pos h, h]; simp
    · rw [if_neg h]; simp [h]
  | k + 1, x :: l, y :: m, h1, h2 => by
    rw [List.take_succ_cons, List.take_succ_cons]
    show _ ↔ k + 1 < (if x = y then RM.lcp l m + 1 else 0)
    have ih := lcp_takes k l m (by simpa using h1) (by simpa using h2)
    by_cases h : x = y
    · rw [if_pos h, h]
      constructor
      · intro e
        have := ih.mp (List.cons.inj e).2
        omega
      · intro e
        rw [ih.mpr (by omega)]
    · rw [if_neg h]
      constructor
      · intro e
        exact absurd (List.cons.inj e).1 h
      · intro e
        omega
theorem ltT {H : Hp} {a b : Addr} {l m : List Int} {Q : VK} (h1 : SqT K H a (l.map V.int)) (h2 : SqT K H b (m.map V.int)) (q : Q (.bl (befB l m)) H) : rLtT K (.ref a) (.ref b) H Q := ⟨a, b, l, m, rfl, rfl, h1, h2, by rw [← bef_lex]; exact q⟩
/-- one of the three ways in which a row is passed -/
theorem r_addA {H : Hp} {r q : Addr} {l m : List Int} {n : Nat} {Q : VK} (h1 : RowOf K H r l n) (h2 : RT K H q m n) (hn : n ≤ 20000) (k : ∀ z H', Same H H' → H z = none → RowOf K H' z (l ++ m) (4 * n) → Q (.ref z) H') : rOr (rOr (rOwnI (cR K) (spAdd K)) (rOwnT K (cR K) (spAdd K))) (rOwnB K (cR K) "list" (spAdd K)) (.ref r) (.ref q) H Q := by
  rcases h2 with h2 | ⟨h2 | h2, h3, h4⟩
  · exact .inl (.inl (r_add h1 h2 hn k))
  · exact .inr (r_addL h1 h2 h3 hn h4 k)
  · exact .inl (.inr (r_addT h1 h2 h3 hn h4 k))
theorem tru {a : Bool} {Q : VK} {H : Hp} (q : Q (.bl true) H) : Q (.bl (decide (a = a))) H := by rw [decide_eq_true rfl]; exact q

theorem ok__law_pair_right (T : Top K mg) : FnOk PW w K mg base CX0 12 (fa K "_law_pair_right") (fdOf K (fa K "_law_pair_right")) ["_law_tape", "_law_row", "_law_flat", "_law_other"] (spPair K) := by
  refine T.F__law_pair_right.ok sc__law_pair_right (fun vs H Q E h => ?_) (fun cdv A outer s H vs Q E hr h => ?_)
  · obtain ⟨p, c, r, t, o, b, n, l, m, rfl, _hT, _hb, _hR, _hn, _hS, _hO, _hL, _hM, _h4, _k⟩ := h
    rfl
  · obtain ⟨p, c, r, t, o, b, n, l, m, rfl, hT, hb, hR, hn, hS, hO, hL, hM, h4, k⟩ := h
    have hu := hu_of hr
    obtain ⟨gk, kbp⟩ := plain_kb T
    obtain ⟨dsp, hvp, hbp⟩ := plain_b T
    obtain ⟨dsi, hvi, hbi⟩ := init_b T
    refine ⟨_, (pss_cons (ps_set (i := 4) sc__law_pair_right.nd rfl (Or.inl rfl) (pe_lst (pa_cons (pe_make T.mkR (ok_Row___init__ T) (hr.mono (by decide)) (by rfl) T.g_Row hbi hvi pass0 (pa_cons (pe_call (ok__law_cut T) (hr.mono (by decide)) rfl T.g__law_cut T.F__law_cut.kp T.b__law_cut .nil pass0 (pa_cons (pv 0) (pa_cons (pv 3) pa_nil))) pa_nil)) (pa_cons (pv 3) (pa_cons (pe_callTy call_list_of (by rfl) T.z_list (by decide +kernel) (pa_cons (pv 3) pa_nil)) pa_nil)))))
      (pss_cons (ps_set (i := 5) sc__law_pair_right.nd rfl (Or.inl rfl) (pe_callB call_len_seq (by rfl) T.z_len (by decide +kernel) (pa_cons (pe_lc (own := [("_law_k", 8)]) (tt := tTest (tOp (rEqD K) (tSl (rSlA K) (tVar 2) tNoPart (tPart (tOp (rI0 fun i j => .int (i + j)) (tVar 8) (tC (.int 1))))) (tSl (rSlA K) (tVar 3) tNoPart (tPart (tOp (rI0 fun i j => .int (i + j)) (tVar 8) (tC (.int 1))))))) (g := gName 8) (by rfl) sc__law_pair_right.nd (pi_range1 (by rfl) T.z_range (pa_cons (pe_callB (call_min2 rfl) (by rfl) T.z_min (by decide +kernel) (pa_cons (pe_callB call_len_seq (by rfl) T.z_len (by decide +kernel) (pa_cons (pv 2) pa_nil)) (pa_cons (pe_callB call_len_seq (by rfl) T.z_len (by decide +kernel) (pa_cons (pv 3) pa_nil)) pa_nil))) pa_nil)) (blkOk_by (own := [("_law_k", 8)]) (N := ["_law_tape", "_law_row", "_law_flat", "_law_other", "_law_rows", "_law_same", "_law_one", "_law_back", "_law_k"]) (sc := (defScope s__law_pair_right)) (by decide +kernel)) (fun _ _ _ _ _ => (pg_name (i := 8) sc__law_pair_right.nd rfl (Or.inl rfl))) (fun _ _ _ _ _ => (pts_one (pt_cmpR (op_eqD hr.units) (pe_slice sl_tupA (pv 2) po_none (po_some (pe_op op_add (pv 8) pe_int))) (pe_slice sl_tupA (pv 3) po_none (po_some (pe_op op_add (pv 8) pe_int))) (nomark _)))) (fun _ _ _ _ _ => (pv 8))) pa_nil)))
      (pss_cons (ps_for PassesOwn.never rfl (pi_list (pv 4)) (pg_name (i := 6) sc__law_pair_right.nd rfl (Or.inl rfl)) (pss_one (ps_if (PW.pt (pw_or (pt_not (pt_val (pe_call (ok__law_is T) (hr.mono (by decide)) rfl T.g__law_is T.F__law_is.kp T.b__law_is .nil pass0 (pa_cons (pe_meth (pv 1) T.cl T.m_before (ok_Row_before T) (hr.mono (by decide)) T.b_Row_before .nil pass0 (pa_cons (pv 6) pa_nil)) (pa_cons (pe_cmpR (op_ltT hr.units0) (pv 2) (pv 3) (nomark _)) pa_nil))))) (pw_or (pt_cmpR op_ne (pe_meth (pv 1) T.cl T.m_common (ok_Row_common T) (hr.mono (by decide)) T.b_Row_common .nil pass0 (pa_cons (pv 6) pa_nil)) (pv 5) (nomark _)) (pw_or1 (pt_cmpR (op_neD hr.units) (pe_meth0 (pe_op (op_or (op_or (bop_ownI (op := .Add) T.s_first T.m___add__.at_ T.m___add__.fn (ok_Row___add__ T) T.b_Row___add__ (hr.mono (by decide))) (bop_ownT T.s_first T.m___add__.at_ T.m___add__.fn (ok_Row___add__ T) T.b_Row___add__ (hr.mono (by decide)))) (bop_ownB (T := "list") PySem.noFill_list_add T.s_first T.m___add__.at_ T.m___add__.fn (ok_Row___add__ T) T.b_Row___add__ (hr.mono (by decide)))) (pv 1) (pv 6)) T.cl T.m_plain (ok_Row_plain T) (hr.mono (by decide)) hbp hvp pass0) (pe_op op_catA (pv 2) (pv 3)) (nomark _)))))) (pss_one (ps_ret pe_bl)) pss_nil)))
      (pss_cons (ps_set (i := 7) sc__law_pair_right.nd rfl (Or.inl rfl) (pe_ix ix_list (pv 4) pe_int (fun _ _ => rfl)))
      (pss_cons (ps_if (PW.pt (pw_or (pt_not (pt_val (pe_call (ok__law_is T) (hr.mono (by decide)) rfl T.g__law_is T.F__law_is.kp T.b__law_is .nil pass0 (pa_cons (pe_meth (pv 7) T.cl T.m_before (ok_Row_before T) (hr.mono (by decide)) T.b_Row_before .nil pass0 (pa_cons (pv 1) pa_nil)) (pa_cons (pe_cmpR (op_ltT hr.units0) (pv 3) (pv 2) (nomark _)) pa_nil))))) (pw_or1 (pt_not (pt_val (pe_call (ok__law_is T) (hr.mono (by decide)) rfl T.g__law_is T.F__law_is.kp T.b__law_is .nil pass0 (pa_cons (pe_meth (pv 7) T.cl T.m_before (ok_Row_before T) (hr.mono (by decide)) T.b_Row_before .nil pass0 (pa_cons (pv 2) pa_nil)) (pa_cons (pe_cmpR (op_ltT hr.units0) (pv 3) (pv 2) (nomark _)) pa_nil)))))))) (pss_one (ps_ret pe_bl)) pss_nil)
      (pss_cons (ps_if (PW.pt (pw_or (pt_cmpR op_ne (pe_meth (pv 7) T.cl T.m_common (ok_Row_common T) (hr.mono (by decide)) T.b_Row_common .nil pass0 (pa_cons (pv 1) pa_nil)) (pv 5) (nomark _)) (pw_or1 (pt_cmpR op_ne (pe_meth (pv 7) T.cl T.m_common (ok_Row_common T) (hr.mono (by decide)) T.b_Row_common .nil pass0 (pa_cons (pv 2) pa_nil)) (pv 5) (nomark _))))) (pss_one (ps_ret pe_bl)) pss_nil)
      (pss_cons (ps_if (PW.pt (pw_or (pt_not (pt_val (pe_call (ok__law_is T) (hr.mono (by decide)) rfl T.g__law_is T.F__law_is.kp T.b__law_is .nil pass0 (pa_cons (pe_cmpR (op_ownI (op := .Eq) (fun _ _ => rfl) T.m___eq__.at_ T.m___eq__.fn (ok_Row___eq__ T) T.b_Row___eq__ (hr.mono (by decide))) (pv 1) (pv 7) (nomark _)) (pa_cons (pe_cmpR (op_eqD hr.units) (pv 2) (pv 3) (nomark _)) pa_nil))))) (pw_or1 (pt_not (pt_val (pe_call (ok__law_is T) (hr.mono (by decide)) rfl T.g__law_is T.F__law_is.kp T.b__law_is .nil pass0 (pa_cons (pe_cmpR (op_neI T.f_ne T.m___eq__.at_ T.m___eq__.fn T.o_sub (ok_Row___eq__ T) T.b_Row___eq__ (hr.mono (by decide))) (pv 1) (pv 7) (nomark _)) (pa_cons (pe_cmpR (op_neD hr.units) (pv 2) (pv 3) (nomark _)) pa_nil)))))))) (pss_one (ps_ret pe_bl)) pss_nil)
      (pss_cons (ps_if (PW.pt (pw_or (pt_cmpR (op_ownB (T := "tuple") (op := .Eq) (fun _ _ => rfl) T.t_sub1 T.m___eq__.at_ T.m___eq__.fn (okT_eq T) T.b_Row___eq__ (hr.mono (by decide))) (pv 1) (pv 3) (nomark _)) (pw_or1 (pt_cmpR (op_tupOwn T.t_sub2 T.m___eq__.at_ T.m___eq__.fn (okT_eq T) T.b_Row___eq__ (hr.mono (by decide))) (pv 3) (pv 1) (nomark _))))) (pss_one (ps_ret pe_bl)) pss_nil)
      (pss_one (ps_ret (pe_and (pe_cmpR (op_eqD hr.units) (pe_ix ix_list (pv 4) pe_int (fun _ _ => rfl)) (pe_callTy call_list_of (by rfl) T.z_list (by decide +kernel) (pa_cons (pv 3) pa_nil)) (nomark _)) (pe_one (pe_cmpR (op_eqD hr.units) (pe_meth0 (pv 1) T.cl T.m_plain (ok_Row_plain T) (hr.mono (by decide)) hbp hvp pass0) (pv 2) (nomark _)))))))))))))), ?_⟩
    obtain ⟨kd, hd0⟩ := hT.dict
    refine ⟨_, rfl, _, rfl, p, c, o, b, m, rfl, hT, by omega, hO, hM, h4, fun a ss H1 s1 t1 f1 hRL hsl hok hfl => nilI fun x0 dx0 hx0 hdx0 hne0 => mk_row hx0 hdx0 hne0 (by obtain ⟨vs, g1, g2⟩ := hRL; exact ⟨vs, SqL.of g1, g2⟩) hsl hok fun H2 s2 hX => ?_⟩
    rw [hfl] at hX
    have sb2 := s1.trans (Same.but p s2)
    have t2 := t1.same s2
    obtain ⟨N, hN⟩ : ∃ N, N = n + 20 := ⟨_, rfl⟩
    have hX2 : RowOf K H2 x0 m N := hX.mono (by omega)
    have hR2 : RowOf K H2 r l N := (sb2.row hd0 hR).mono (by omega)
    have hS2 := sb2.sqT hd0 hS
    have hO2 := sb2.sqT hd0 hO
    refine ⟨_, rfl, _, rfl, o, _, rfl, .inr hO2, fun lo hlo => ⟨Nat.le_of_ble_eq_true rfl, fun RL hRLs => ?_⟩⟩
    have s3 := (same_upd (o := .lst (m.map V.int)) hlo).trans (same_upd (o := .lst [.ref x0, .ref o, .ref lo]) hRLs)
    have hLo : SqL K (upd (upd H2 lo (.lst (m.map V.int))) RL (.lst [.ref x0, .ref o, .ref lo])) lo (m.map V.int) := SqL.of (same_upd (o := .lst [.ref x0, .ref o, .ref lo]) hRLs _ _ upd_same)
    have hRL3 : (upd (upd H2 lo (.lst (m.map V.int))) RL (.lst [.ref x0, .ref o, .ref lo])) RL = some (.lst [.ref x0, .ref o, .ref lo]) := upd_same
    have hX3 := hX2.same s3
    have hR3 := hR2.same s3
    have hS3 := Same.seqT s3 hS2
    have hO3 := Same.seqT s3 hO2
    have t3 := t2.same s3
    have sb3 := sb2.trans (Same.but p s3)
    generalize upd (upd H2 lo (.lst (m.map V.int))) RL (.lst [.ref x0, .ref o, .ref lo]) = H3 at s3 hLo hRL3 hX3 hR3 hS3 hO3 t3 sb3 ⊢
    have le1 := RM.lcp_le_left l m
    have le2 := RM.lcp_le_right l m
    refine ⟨_, rfl, t, _, rfl, .inr hS3, _, rfl, o, _, rfl, .inr hO3, _, _, rfl, ?_⟩
    rw [List.length_map, List.length_map, min_cast]
    refine ⟨_, rfl, by omega, by omega, fun D hD => ?_⟩
    refine lc_range (lo := 0) (n := ((min l.length m.length : Nat) : Int).toNat) (fun i H4 => Same H3 H4 ∧ ∃ acc, H4 D = some (.lst acc) ∧ acc.length = min i (RM.lcp l m)) ⟨same_upd hD, [], upd_same, by simp⟩ ?_ ?_
    · rintro i H4 hi ⟨s4, acc, hD4, hal⟩
      have hi1 : i < l.length := by omega
      have hi2 : i < m.length := by omega
      refine ⟨rfl, ?_⟩
      refine ⟨_, rfl, _, rfl, tcI (i0 (v := .int ((i + 1 : Nat) : Int)) (congrArg V.int (by omega)) ⟨_, rfl, slA_take (Same.seqT s4 hS3) fun q1 H5 s5 h5 => ?_⟩)⟩
      refine ⟨_, rfl, _, rfl, tcI (i0 (v := .int ((i + 1 : Nat) : Int)) (congrArg V.int (by omega)) ⟨_, rfl, slA_take (Same.seqT (s4.trans s5) hO3) fun q2 H6 s6 h6 => ?_⟩)⟩
      rw [← List.map_take] at h5 h6
      refine eqT (Same.seqT s6 h5) h6 ⟨_, rfl, ?_⟩
      have hD6 := (s5.trans s6) _ _ hD4
      have s46 := s4.trans (s5.trans s6)
      by_cases c1 : i < RM.lcp l m
      · refine ifT (decide_eq_true ((lcp_takes i l m hi1 hi2).mpr c1)) ⟨_, rfl, acc, hD6, (by rw [sizeLine_eq]; omega), same_at hD s46, _, upd_same, ?_⟩
        rw [List.length_append, hal]
        show min i _ + 1 = _
        omega
      · exact ifF (decide_eq_false (fun e => c1 ((lcp_takes i l m hi1 hi2).mp e))) ⟨s46, acc, hD6, by omega⟩
    rintro H4 ⟨s4, acc, hD4, hal⟩
    rw [Int.toNat_natCast, Nat.min_eq_right (by omega)] at hal
    refine ⟨D, _, rfl, .inl (SqL.of hD4), ?_⟩
    rw [hal]
    have hX4 := hX3.same s4
    have hR4 := hR3.same s4
    have hS4 := Same.seqT s4 hS3
    have hO4 := Same.seqT s4 hO3
    have hLo4 := s4.seq hLo
    have hRL4 := s4 _ _ hRL3
    refine ⟨_, rfl, RL, rfl, ⟨_, SqL.of hRL4⟩, for_list (K := K) (a := RL) (xs := [.ref x0, .ref o, .ref lo]) (fun i σ H5 => Same H4 H5 ∧ ∃ (o6 : Option V), σ = [some (.ref p), some (.ref r), some (.ref t), some (.ref o), some (.ref RL), some (.int (RM.lcp l m : Int)), o6, none, none]) ⟨Same.refl _, _, rfl⟩ (fun i σ H5 _ ⟨s5, _⟩ => SqL.of (s5 _ _ hRL4)) ?_ ?_⟩
    · rintro i x σ H5 hi ⟨s5, o6, rfl⟩
      obtain ⟨q, rfl, hq⟩ : ∃ q, x = .ref q ∧ RT K H5 q m N := by
        match i, hi with
        | 0, hi => exact ⟨x0, (Option.some.inj hi).symm, .inl (hX4.same s5)⟩
        | 1, hi => exact ⟨o, (Option.some.inj hi).symm, .inr ⟨.inr (Same.seqT s5 hO4), by omega, by omega⟩⟩
        | 2, hi => exact ⟨lo, (Option.some.inj hi).symm, .inr ⟨.inl (s5.seq hLo4), by omega, by omega⟩⟩
        | i + 3, hi => simp at hi
      have hR5 := hR4.same s5
      have hS5 := Same.seqT s5 hS4
      have hO5 := Same.seqT s5 hO4
      refine if_no (fun H6 => Same H5 H6) (fun Q1 k1 => ?_) (fun H6 s6 => ⟨s5.trans s6, _, rfl⟩)
      refine ⟨_, rfl, m_at hR5 (fun _ => rfl) ⟨_, rfl, r, q, l, m, N, rfl, hR5, hq, fun H6 s6 => ⟨_, rfl, _, rfl, ltT (Same.seqT s6 hS5) (Same.seqT s6 hO5) ⟨_, _, rfl, _, rfl, ifF (nd rfl) ?_⟩⟩⟩⟩
      have hR6 := hR5.same s6
      refine ⟨_, rfl, m_at hR6 (fun _ => rfl) ⟨_, rfl, r, q, l, m, N, rfl, hR6, hq.same s6, fun H7 s7 => ⟨_, rfl, rfl, _, rfl, ifF (nd rfl) ?_⟩⟩⟩
      have s67 := s6.trans s7
      refine ⟨_, rfl, _, rfl, r_addA (hR5.same s67) (hq.same s67) (by omega) fun z H8 s8 f8 h8 => m_plain h8 (by rw [List.length_append]; omega) fun q5 H9 s9 h9 => ?_⟩
      have s69 := s67.trans (s8.trans s9)
      refine ⟨_, rfl, _, rfl, catA (Same.seqT s69 hS5) (Same.seqT s69 hO5) (by rw [List.length_map, List.length_map, sizeLine_eq]; omega) fun q6 H10 s10 h10 => ?_⟩
      rw [← List.map_append] at h10
      exact ne_T (Same.seqT s10 h9) h10 ⟨_, rfl, k1 _ (s69.trans s10)⟩
    rintro σ H5 ⟨s5, o6, rfl⟩
    have hX5 := hX4.same s5
    have hR5 := hR4.same s5
    have hS5 := Same.seqT s5 hS4
    have hO5 := Same.seqT s5 hO4
    have hLo5 := s5.seq hLo4
    have hRL5 := s5 _ _ hRL4
    refine ⟨_, rfl, RL, _, _, _, rfl, rfl, SqL.of hRL5, rfl, ?_⟩
    dsimp only
    refine if_noS (fun H6 => Same H5 H6) (fun Q1 k1 => ?_) (fun H6 s6 => ?_)
    · refine ⟨_, rfl, m_at hX5 (fun _ => rfl) ⟨_, rfl, x0, r, m, l, N, rfl, hX5, .inl hR5, fun H6 s6 => ⟨_, rfl, _, rfl, ltT (Same.seqT s6 hO5) (Same.seqT s6 hS5) ⟨_, _, rfl, _, rfl, ifF (nd rfl) ?_⟩⟩⟩⟩
      have hX6 := hX5.same s6
      exact ⟨_, rfl, m_at hX6 (fun _ => rfl) ⟨_, rfl, x0, t, m, l, N, rfl, hX6, .inr ⟨.inr (Same.seqT s6 hS5), by omega, by omega⟩, fun H7 s7 => ⟨_, rfl, _, rfl, ltT (Same.seqT (s6.trans s7) hO5) (Same.seqT (s6.trans s7) hS5) ⟨_, _, rfl, _, rfl, nq rfl (k1 _ (s6.trans s7))⟩⟩⟩⟩
    have hX6 := hX5.same s6
    have hR6 := hR5.same s6
    have hS6 := Same.seqT s6 hS5
    have hO6 := Same.seqT s6 hO5
    refine if_noS (fun H7 => Same H6 H7) (fun Q1 k1 => ?_) (fun H7 s7 => ?_)
    · refine ⟨_, rfl, m_at hX6 (fun _ => rfl) ⟨_, rfl, x0, r, m, l, N, rfl, hX6, .inl hR6, fun H7 s7 => ⟨_, rfl, rfl, _, rfl, ifF (nd (by rw [RM.lcp_comm])) ?_⟩⟩⟩
      have hX7 := hX6.same s7
      exact ⟨_, rfl, m_at hX7 (fun _ => rfl) ⟨_, rfl, x0, t, m, l, N, rfl, hX7, .inr ⟨.inr (Same.seqT s7 hS6), by omega, by omega⟩, fun H8 s8 => ⟨_, rfl, rfl, _, rfl, nq (by rw [RM.lcp_comm]) (k1 _ (s7.trans s8))⟩⟩⟩
    have hX7 := hX6.same s7
    have hR7 := hR6.same s7
    have hS7 := Same.seqT s7 hS6
    have hO7 := Same.seqT s7 hO6
    refine if_noS (fun H8 => Same H7 H8) (fun Q1 k1 => ?_) (fun H8 s8 => ?_)
    · refine ⟨_, rfl, _, rfl, r_eq hR7 hX7 fun H8 s8 => ⟨_, rfl, _, rfl, eqT (Same.seqT s8 hS7) (Same.seqT s8 hO7) ⟨_, _, rfl, _, rfl, ifF (nd rfl) ?_⟩⟩⟩
      exact ⟨_, rfl, _, rfl, r_ne (hR7.same s8) (hX7.same s8) fun H9 s9 => ⟨_, rfl, _, rfl, neT (Same.seqT (s8.trans s9) hS7) (Same.seqT (s8.trans s9) hO7) ⟨_, _, rfl, _, rfl, nq rfl (k1 _ (s8.trans s9))⟩⟩⟩
    have hR8 := hR7.same s8
    have hS8 := Same.seqT s8 hS7
    have hO8 := Same.seqT s8 hO7
    refine if_noS (fun H9 => Same H8 H9) (fun Q1 k1 => ?_) (fun H9 s9 => ?_)
    · obtain ⟨dx, Tx, er⟩ := hR8.ins
      refine ⟨_, rfl, _, rfl, r, dx, _, rfl, er, ty_tup hO8, _, o, _, rfl, hO8, _, rfl, ifF rfl ?_⟩
      exact ⟨_, rfl, _, rfl, o, _, r, dx, _, rfl, rfl, hO8, er, _, o, _, rfl, hO8, _, rfl, k1 _ (Same.refl _)⟩
    have s59 := s6.trans (s7.trans (s8.trans s9))
    have hRL9 := s59 _ _ hRL5
    have hLo9 := s59.seq hLo5
    have hO9 := Same.seqT s9 hO8
    refine ⟨_, rfl, RL, _, _, _, rfl, rfl, SqL.of hRL9, rfl, _, rfl, o, _, rfl, .inr hO9, fun l2 hl2 => ?_⟩
    have s10 := same_upd (o := .lst (m.map V.int)) hl2
    refine eq_same (.lst (s10.seq hLo9) (dpInts m)) (.lst (SqL.of upd_same) (dpInts m)) (shLst m) ⟨_, rfl, iteT ?_⟩
    have hR10 := hR8.same (s9.trans s10)
    have hS10 := Same.seqT (s9.trans s10) hS8
    refine ⟨_, rfl, m_plain hR10 (by omega) fun q5 H11 s11 h11 => ⟨_, rfl, eq_same (.tup h11 (dpInts l)) (.tup (Same.seqT s11 hS10) (dpInts l)) (shTup l) ?_⟩⟩
    have s411 := s4.trans (s5.trans (s59.trans (s10.trans s11)))
    exact k _ (sb3.trans (Same.but p s411)) ((t3.same s411).mono (by omega))
end
end R4
set_option Elab.async false
set_option linter.all false
set_option maxRecDepth 100000
set_option maxHeartbeats 4000000
namespace R4
open PySem L2 PySem.GW
open RM (Rn)
section
variable {w : World} {K : PySem.W.Frag} {mg : Str → Option Value} {base : Heap}

open LamX
set_option pp.maxSteps 700
theorem passE0 {X : Cx} : Passes (L2.CX X.prog X.w) X E0 := fun _ _ _ _ _ _ _ h => by
  obtain ⟨_, _, _, _, _, _, _, _, _, _, _, _, e⟩ := h
  exact e.elim
/-- an expression that makes data, and changes nothing -/
def GD (K : PySem.W.Frag) (te : TE) (d : PyData) : Prop := ∀ (σ : St) (H : Hp) (Q : VK), (∀ v H', Same H H' → Dp K H' v d → Q v H') → te σ H Q
def GDs (K : PySem.W.Frag) (ta : TA) (ds : List PyData) : Prop := ∀ (σ : St) (H : Hp) (Q : List V → Hp → Prop), (∀ vs H', Same H H' → DpAll K H' vs ds → Q vs H') → ta σ H Q
theorem gd_int {i : Int} : GD K (tC (.int i)) (.int i) := fun _ H _ q => q _ H (Same.refl _) (.int i)
theorem gd_bl {b : Bool} : GD K (tC (.bl b)) (.bool b) := fun _ H _ q => q _ H (Same.refl _) (.bl b)
theorem gd_non : GD K (tC .non) .none := fun _ H _ q => q _ H (Same.refl _) .non
theorem gd_str {x : Str} : GD K (tC (.str x)) (.str x) := fun _ H _ q => q _ H (Same.refl _) (.str x)
theorem gds_nil : GDs K tNil [] := fun _ H _ q => q _ H (Same.refl _) .nil
theorem gds_cons {te : TE} {ta : TA} {d : PyData} {ds : List PyData} (h1 : GD K te d) (h2 : GDs K ta ds) : GDs K (tCons te ta) (d :: ds) := fun σ H Q q =>
  h1 σ H _ fun v H1 s1 hd => h2 σ H1 _ fun vs H2 s2 hs => q _ _ (s1.trans s2) (.cons (Dp.same s2 hd) hs)
theorem gd_tup {ta : TA} {ds : List PyData} (h : GDs K ta ds) (hl : ds.length ≤ 1000 := by decide) : GD K (tTup ta) (.tuple ds) := fun σ H Q q =>
  h σ H _ fun vs H1 s1 hs => ⟨by rw [DpAll.length hs, sizeLine_eq]; omega, fun p hp => q _ _ (s1.trans (same_upd hp)) (.tup (SqT.of upd_same) (DpAll.same (same_upd hp) hs))⟩
theorem gd_lst {ta : TA} {ds : List PyData} (h : GDs K ta ds) (hl : ds.length ≤ 1000 := by decide) : GD K (tLst ta) (.list ds) := fun σ H Q q =>
  h σ H _ fun vs H1 s1 hs => ⟨by rw [DpAll.length hs, sizeLine_eq]; omega, fun p hp => q _ _ (s1.trans (same_upd hp)) (.lst (SqL.of upd_same) (DpAll.same (same_upd hp) hs))⟩
theorem gd_neg {i : Int} : GD K (tUn (rU fun i => .int (-i)) (tC (.int i))) (.int (-i)) := fun _ H _ q => ⟨i, rfl, q _ H (Same.refl _) (.int (-i))⟩
theorem gd_rep1 {te : TE} {d : PyData} {k : Int} (h : GD K te (.tuple [d])) (h2 : 2 ≤ k) (hk : k ≤ 1000) : GD K (tOp (rRepT K) te (tC (.int k))) (.tuple (List.replicate k.toNat d)) := fun σ H Q q =>
  h σ H _ fun v H1 s1 hd => by
    cases hd with
    | @tup a xs ds g1 g2 =>
      have hlen : xs.length = 1 := DpAll.length g2
      have e1 : ∃ x, xs = [x] := by
        match xs, hlen with
        | [x], _ => exact ⟨x, rfl⟩
      obtain ⟨x, rfl⟩ := e1
      refine ⟨a, k, _, rfl, rfl, g1, by simp, h2, hk, by simp, fun p hp => q _ _ (s1.trans (same_upd hp)) (.tup (SqT.of upd_same) ?_)⟩
      have hx : Dp K H1 x d := by cases g2 with | cons h _ => exact h
      have key : ∀ n, DpAll K (upd H1 p (.tup (List.replicate k.toNat [x]).flatten)) (List.replicate n [x]).flatten (List.replicate n d) := by
        intro n
        induction n with
        | zero => exact .nil
        | succ n ih =>
          rw [List.replicate_succ, List.replicate_succ, List.flatten_cons]
          exact .cons (Dp.same (same_upd hp) hx) ih
      exact key _
theorem gd_ten : GD K (tOp (rI0 fun i j => .int (i + j)) (tCall spTen [] E0 (tCons (tC (.int 300)) tNil)) (tC (.int 1))) (.int (((10 ^ 300 : Nat) : Int) + 1)) := fun σ H Q q =>
  ⟨300, rfl, by decide, ⟨_, _, rfl, rfl, q _ H (Same.refl _) (.int _)⟩⟩
def lenB (d : PyData) : Bool := match seqD d with
  | none => true
  | some ds => decide (ds.length ≤ 100000) && ds.all fun x => match seqD x with
    | none => true
    | some es => decide (es.length ≤ 100000)
theorem sm_of {x : PyData} (h : (match seqD x with | none => true | some es => decide (es.length ≤ 100000)) = true) : Sm x := fun es e => by
  rw [e] at h
  exact of_decide_eq_true h
theorem lenB_ok {d : PyData} (h : lenB d = true) : Sm2 d := by
  unfold lenB at h
  refine ⟨fun ds e => ?_, fun ds e x hx => ?_⟩
  · rw [e] at h
    simp only [Bool.and_eq_true] at h
    exact of_decide_eq_true h.1
  · rw [e] at h
    simp only [Bool.and_eq_true] at h
    exact sm_of (List.all_eq_true.mp h.2 x hx)
def odds : List PyData := [.tuple [.tuple [], .int 1], .tuple [.tuple [.int 0], .int (-1)], .tuple [.tuple [.int 4], .int 1], .tuple [.tuple [.int 0, .int (-1)], .int 1], .tuple [.tuple [.bool true], .int 1], .tuple [.tuple [.int 0], .bool true], .tuple [.int 0, .int 1], .tuple [.tuple [.int 0], .int 1, .int 1], .none, .str "01", .tuple [.tuple [.int 0], .none], .tuple [.tuple (List.replicate (41 : Int).toNat (.int 0)), .int 1], .tuple [.tuple [.int 0], .int (((10 ^ 300 : Nat) : Int) + 1)], .tuple [.str "0", .int 1]]
theorem odds_ok : odds.all (fun d => !stretchD d && lenB d) = true := by decide +kernel
def spWrong (K : PySem.W.Frag) : Sp := fun vs H Q _ => ∃ (p c a : Addr) (b : Nat) (xs : List V) (ss : List Rn), vs = [.ref p, .ref a] ∧ TapeOk H p c b ∧ b ≤ 1000000 ∧ H a = some (.lst xs) ∧ Paired (PairS K H) xs ss ∧ ss.length ≤ 6 ∧ (∀ r ∈ ss, StrOk r) ∧ Tabs (TS K) H ∧ ∀ H', ExtB p H H' → TapeOk H' p c (b + 10) → Tabs (TS K) H' → Q (.bl true) H'
theorem dp1L {H : Hp} {vl : List V} {ds : List PyData} (h : DpAll K H vl [.list ds]) : ∃ La lx, vl = [.ref La] ∧ SqL K H La lx ∧ DpAll K H lx ds := by
  cases h with
  | cons h t =>
    cases t
    cases h with
    | lst g1 g2 => exact ⟨_, _, rfl, g1, g2⟩
theorem DpAll.app {H : Hp} : ∀ {ds es : List PyData} {xs ys : List V}, DpAll K H xs ds → DpAll K H ys es → DpAll K H (xs ++ ys) (ds ++ es)
  | _, _, _, _, .nil, h => h
  | _, _, _, _, .cons h t, g => .cons h (DpAll.app t g)
theorem DpAll.take {H : Hp} : ∀ {ds : List PyData} {xs : List V} (n : Nat), DpAll K H xs ds → DpAll K H (xs.take n) (ds.take n)
  | _, _, 0, _ => by rw [List.take_zero, List.take_zero]; exact .nil
  | _, _, n + 1, .nil => .nil
  | _, _, n + 1, .cons h t => .cons h (DpAll.take n t)
theorem DpAll.drop {H : Hp} : ∀ {ds : List PyData} {xs : List V} (n : Nat), DpAll K H xs ds → DpAll K H (xs.drop n) (ds.drop n)
  | _, _, 0, h => h
  | _, _, n + 1, .nil => .nil
  | _, _, n + 1, .cons h t => DpAll.drop n t
theorem cutT (xs : List V) (n : Nat) : cutV xs none (some (n : Int)) = xs.take n := by
  unfold cutV
  rw [HT.sIx_none, HT.sIx_nat, List.drop_zero, Nat.sub_zero]
  by_cases h : n ≤ xs.length
  · rw [Nat.min_eq_left h]
  · rw [Nat.min_eq_right (by omega), List.take_length, List.take_of_length_le (by omega)]
theorem cutD (xs : List V) (n : Nat) (h : n ≤ xs.length) : cutV xs (some (n : Int)) none = xs.drop n := by
  unfold cutV
  rw [HT.sIx_none, HT.sIx_nat, Nat.min_eq_left h, List.take_of_length_le (by rw [List.length_drop]; omega)]
/-- the first wrong entry -/
theorem need_at {ds es : List PyData} {d : PyData} (h1 : ∀ y ∈ ds, stretchD y = true) (h2 : stretchD d = false) (hl : (ds ++ d :: es).length ≤ 20) : NeedR (.list (ds ++ d :: es)) (some ((ds.length : Nat) : Int)) := by
  refine .inr (.inr (.inl ⟨_, ds.length, d, rfl, hl, by simp, h2, fun j y hj e => ?_, rfl⟩))
  rw [List.getElem?_append_left hj] at e
  exact h1 y (List.mem_of_getElem? e)
theorem sm3_of {ds : List PyData} (hl : ds.length ≤ 100000) (h : ∀ y ∈ ds, Sm2 y) : Sm3 (.list ds) := ⟨fun es e => by cases Option.some.inj e; exact hl, fun es e => by cases Option.some.inj e; exact h⟩
theorem repAll {H : Hp} {v : V} {d : PyData} (h : Dp K H v d) : ∀ n : Nat, DpAll K H (List.replicate n [v]).flatten (List.replicate n d)
  | 0 => .nil
  | n + 1 => by
    rw [List.replicate_succ, List.replicate_succ, List.flatten_cons]
    exact .cons h (repAll h n)
theorem need_no {d : PyData} (h : seqD d = none) : Sm3 d ∧ NeedR d (some (-1)) := ⟨⟨fun ds e => (by rw [h] at e; cases e), fun ds e => (by rw [h] at e; cases e)⟩, .inl ⟨h, rfl⟩⟩
theorem need_rep {d : PyData} (h : lenB d = true) : Sm3 (.list (List.replicate (21 : Int).toNat d)) ∧ NeedR (.list (List.replicate (21 : Int).toNat d)) (some (-1)) := by
  refine ⟨sm3_of (by rw [List.length_replicate]; decide) fun y hy => ?_, .inr (.inl ⟨_, rfl, by rw [List.length_replicate]; decide, rfl⟩)⟩
  rw [List.eq_of_mem_replicate hy]
  exact lenB_ok h
theorem wrongV {H H' : Hp} {p dp e2 e4 e6 : Addr} {k : List (Key × V)} (hp : H p = some (.dK k)) (sb : SameBut p H H') (ndp : dp ≠ p) (hd : H dp = some (.dK [])) (h2 : Dp K H (.ref e2) (.tuple [.tuple [.int 0], .int 1])) (h4 : SqL K H e4 (List.replicate (21 : Int).toNat [V.ref e2]).flatten) (h6 : SqL K H e6 (List.replicate (21 : Int).toNat [V.non]).flatten) :
    ∀ (i : Nat) (x : V), [V.non, .int 0, .str "rows", .bl true, .ref dp, .ref e4, .ref e6][i]? = some x → ∃ d, DpX K H' x d ∧ Sm3 d ∧ NeedR d (some (-1))
  | 0, _, e => by cases Option.some.inj e; exact ⟨_, .inl .non, need_no rfl⟩
  | 1, _, e => by cases Option.some.inj e; exact ⟨_, .inl (.int _), need_no rfl⟩
  | 2, _, e => by cases Option.some.inj e; exact ⟨_, .inl (.str _), need_no rfl⟩
  | 3, _, e => by cases Option.some.inj e; exact ⟨_, .inl (.bl _), need_no rfl⟩
  | 4, _, e => by cases Option.some.inj e; exact ⟨_, .inr ⟨dp, rfl, sb _ _ ndp hd, rfl⟩, need_no rfl⟩
  | 5, _, e => by cases Option.some.inj e; exact ⟨_, .inl (Dp.ext (ExtB.but sb) hp (.lst h4 (repAll h2 _))), need_rep (by decide +kernel)⟩
  | 6, _, e => by cases Option.some.inj e; exact ⟨_, .inl (Dp.ext (ExtB.but sb) hp (.lst h6 (repAll .non _))), need_rep (by decide +kernel)⟩
  | i + 7, _, e => by simp at e
theorem DpX.extN {H H' : Hp} {p : Addr} {k : List (Key × V)} {v : V} {d : PyData} (e : ExtN H H') (hp : H p = some (.dK k)) (h : DpX K H v d) : DpX K H' v d := by
  rcases h with h | ⟨q, rfl, h, rfl⟩
  · exact .inl (Dp.ext (ExtB.ext p e) hp h)
  · exact .inr ⟨q, rfl, e _ _ h (fun ps z => by cases z), rfl⟩
theorem DpX.same {H H' : Hp} {v : V} {d : PyData} (e : Same H H') (h : DpX K H v d) : DpX K H' v d := by
  rcases h with h | ⟨q, rfl, h, rfl⟩
  · exact .inl (Dp.same e h)
  · exact .inr ⟨q, rfl, e _ _ h, rfl⟩

theorem ok__law_wrong_right (T : Top K mg) (U : Tb K mg base) : FnOkG PW w K mg base CX0 13 (fa K "_law_wrong_right") (fdOf K (fa K "_law_wrong_right")) ["_law_tape", "_law_stretches_here"] (spWrong K) := by
  refine T.F__law_wrong_right.okG sc__law_wrong_right (fun vs H Q E h => ?_) (fun A outer s H vs Q E hgd hr h => ?_)
  · obtain ⟨p, c, a, b, xs, ss, rfl, _hT, _hb, _hA, _hP, _hl, _hok, _hTab, _k⟩ := h
    rfl
  · obtain ⟨p, c, a, b, xs, ss, rfl, hT, hb, hA, hP, hl, hok, hTab, k⟩ := h
    have hu := hu_of hr
    obtain ⟨gk, kbp⟩ := plain_kb T
    obtain ⟨dsp, hvp, hbp⟩ := plain_b T
    obtain ⟨dsi, hvi, hbi⟩ := init_b T
    refine ⟨_, (pss_cons (ps_set (i := 2) sc__law_wrong_right.nd rfl (Or.inl rfl) (pe_call (ok__law_draw T) (hr.mono (by decide)) rfl T.g__law_draw T.F__law_draw.kp T.b__law_draw .nil pass0 (pa_cons (pv 0) (pa_cons (pe_op op_add (pe_callB call_len_seq (by rfl) T.z_len (by decide +kernel) (pa_cons (pv 1) pa_nil)) pe_int) pa_nil))))
      (pss_cons (ps_set (i := 3) sc__law_wrong_right.nd rfl (Or.inl rfl) (pe_call (okV__law_pick T) (hr.mono (by decide)) rfl T.g__law_pick T.F__law_pick.kp T.b__law_pick .nil pass0 (pa_cons (pv 0) (pa_cons (pe_lst (pa_cons (pe_tup (pa_cons (pe_tup pa_nil) (pa_cons pe_int pa_nil))) (pa_cons (pe_tup (pa_cons (pe_tup (pa_cons pe_int pa_nil)) (pa_cons (pe_un un_neg pe_int) pa_nil))) (pa_cons (pe_tup (pa_cons (pe_tup (pa_cons pe_int pa_nil)) (pa_cons pe_int pa_nil))) (pa_cons (pe_tup (pa_cons (pe_tup (pa_cons pe_int (pa_cons (pe_un un_neg pe_int) pa_nil))) (pa_cons pe_int pa_nil))) (pa_cons (pe_tup (pa_cons (pe_tup (pa_cons pe_bl pa_nil)) (pa_cons pe_int pa_nil))) (pa_cons (pe_tup (pa_cons (pe_tup (pa_cons pe_int pa_nil)) (pa_cons pe_bl pa_nil))) (pa_cons (pe_tup (pa_cons pe_int (pa_cons pe_int pa_nil))) (pa_cons (pe_tup (pa_cons (pe_tup (pa_cons pe_int pa_nil)) (pa_cons pe_int (pa_cons pe_int pa_nil)))) (pa_cons pe_non (pa_cons pe_str (pa_cons (pe_tup (pa_cons (pe_tup (pa_cons pe_int pa_nil)) (pa_cons pe_non pa_nil))) (pa_cons (pe_tup (pa_cons (pe_op op_repT (pe_tup (pa_cons pe_int pa_nil)) pe_int) (pa_cons pe_int pa_nil))) (pa_cons (pe_tup (pa_cons (pe_tup (pa_cons pe_int pa_nil)) (pa_cons (pe_op op_add (pe_call (ok__law_ten T) (hr.mono (by decide)) rfl T.g__law_ten T.F__law_ten.kp T.b__law_ten .nil pass0 (pa_cons pe_int pa_nil)) pe_int) pa_nil))) (pa_cons (pe_tup (pa_cons pe_str (pa_cons pe_int pa_nil))) pa_nil))))))))))))))) pa_nil))))
      (pss_cons (ps_set (i := 4) sc__law_wrong_right.nd rfl (Or.inr rfl) (pe_op op_cat (pe_op op_cat (pe_op op_cat (pe_slice sl_list (pv 1) po_none (po_some (pv 2))) (pe_lst (pa_cons (pv 3) pa_nil))) (pe_slice sl_list (pv 1) (po_some (pv 2)) po_none)) (pe_lst (pa_cons (pe_call (okV__law_pick T) (hr.mono (by decide)) rfl T.g__law_pick T.F__law_pick.kp T.b__law_pick .nil pass0 (pa_cons (pv 0) (pa_cons (pe_lst (pa_cons pe_non (pa_cons (pe_tup (pa_cons (pe_tup (pa_cons pe_int pa_nil)) (pa_cons pe_int pa_nil))) pa_nil))) pa_nil))) pa_nil))))
      (pss_cons (ps_if (pt_cmpR (op_neD hr.units) (pe_refused (k := 10) (Ts := TS K) T (by exact hgd) rfl U.b_wrong rfl Tb.mW U.uW (hr.mono (by decide)) (lamS_by (show lamSB (defScope s__law_wrong_right) _ = true by decide +kernel)) rfl (fun _ _ _ _ _ => rfl) (fun A outer s H E f c2 hr2 => (pe_make T.mkR (okx_init T) (hr2.mono (by decide)) (by rfl) T.g_Row hbi hvi (passes_call (takes_of rfl rfl rfl rfl) (fun _ _ _ _ h => h)) (pa_cons (pv 4) pa_nil)))) (pe_tup (pa_cons pe_str (pa_cons (pv 2) (pa_cons pe_bl pa_nil)))) (nomark _)) (pss_one (ps_ret pe_bl)) pss_nil)
      (pss_cons (ps_set (i := 5) sc__law_wrong_right.nd rfl (Or.inr rfl) (pe_call (okV__law_pick T) (hr.mono (by decide)) rfl T.g__law_pick T.F__law_pick.kp T.b__law_pick .nil pass0 (pa_cons (pv 0) (pa_cons (pe_lst (pa_cons pe_non (pa_cons pe_int (pa_cons pe_str (pa_cons pe_bl (pa_cons pe_dnewK (pa_cons (pe_op op_rep (pe_lst (pa_cons (pe_tup (pa_cons (pe_tup (pa_cons pe_int pa_nil)) (pa_cons pe_int pa_nil))) pa_nil)) pe_int) (pa_cons (pe_op op_rep (pe_lst (pa_cons pe_non pa_nil)) pe_int) pa_nil)))))))) pa_nil))))
      (pss_one (ps_ret (pe_cmpR (op_eqD hr.units) (pe_refused (k := 10) (Ts := TS K) T (by exact hgd) rfl U.b_wrong rfl Tb.mW U.uW (hr.mono (by decide)) (lamS_by (show lamSB (defScope s__law_wrong_right) _ = true by decide +kernel)) rfl (fun _ _ _ _ _ => rfl) (fun A outer s H E f c2 hr2 => (pe_make T.mkR (okx_init T) (hr2.mono (by decide)) (by rfl) T.g_Row hbi hvi (passes_call (takes_of rfl rfl rfl rfl) (fun _ _ _ _ h => h)) (pa_cons (pv 5) pa_nil)))) (pe_tup (pa_cons pe_str (pa_cons (pe_un un_neg pe_int) (pa_cons pe_bl pa_nil)))) (nomark _))))))))), ?_⟩
    obtain ⟨kd, hd0⟩ := hT.dict
    refine ⟨_, rfl, _, rfl, a, _, rfl, .inl (SqL.of hA), tcI (i0 (v := .int ((xs.length + 1 : Nat) : Int)) (congrArg V.int (by omega)) ?_)⟩
    have hxl : xs.length = ss.length := Paired.length hP
    refine ⟨p, c, b, _, rfl, hT, by omega, lim_small (by omega) (by omega), fun at1 H1 a1 a2 s1 t1 => ?_⟩
    obtain ⟨at2, rfl⟩ := Int.eq_ofNat_of_zero_le a1
    refine ⟨_, rfl, ?_⟩
    refine gds_cons (gd_lst (K := K) (ds := odds) (gds_cons (gd_tup (gds_cons (gd_tup gds_nil) (gds_cons gd_int gds_nil))) (gds_cons (gd_tup (gds_cons (gd_tup (gds_cons gd_int gds_nil)) (gds_cons gd_neg gds_nil))) (gds_cons (gd_tup (gds_cons (gd_tup (gds_cons gd_int gds_nil)) (gds_cons gd_int gds_nil))) (gds_cons (gd_tup (gds_cons (gd_tup (gds_cons gd_int (gds_cons gd_neg gds_nil))) (gds_cons gd_int gds_nil))) (gds_cons (gd_tup (gds_cons (gd_tup (gds_cons gd_bl gds_nil)) (gds_cons gd_int gds_nil))) (gds_cons (gd_tup (gds_cons (gd_tup (gds_cons gd_int gds_nil)) (gds_cons gd_bl gds_nil))) (gds_cons (gd_tup (gds_cons gd_int (gds_cons gd_int gds_nil))) (gds_cons (gd_tup (gds_cons (gd_tup (gds_cons gd_int gds_nil)) (gds_cons gd_int (gds_cons gd_int gds_nil)))) (gds_cons gd_non (gds_cons gd_str (gds_cons (gd_tup (gds_cons (gd_tup (gds_cons gd_int gds_nil)) (gds_cons gd_non gds_nil))) (gds_cons (gd_tup (gds_cons (gd_rep1 (gd_tup (gds_cons gd_int gds_nil)) (by decide) (by decide)) (gds_cons gd_int gds_nil))) (gds_cons (gd_tup (gds_cons (gd_tup (gds_cons gd_int gds_nil)) (gds_cons gd_ten gds_nil))) (gds_cons (gd_tup (gds_cons gd_str (gds_cons gd_int gds_nil))) gds_nil))))))))))))))) gds_nil _ _ _ ?_
    intro vl H2 s2 hd
    obtain ⟨La, lx, rfl, hLs, hdl⟩ := dp1L hd
    have hxl2 := DpAll.length hdl
    have hol : odds.length = 14 := rfl
    have t2 := t1.same s2
    refine ⟨p, c, La, b + 1, lx, rfl, t2, by omega, hLs, by omega, by omega, fun iw x H3 hx s3 t3 => ?_⟩
    obtain ⟨d1, hd1, hDp2⟩ := DpAll.at hdl hx
    have hob := List.all_eq_true.mp odds_ok d1 (List.mem_of_getElem? hd1)
    simp only [Bool.and_eq_true, Bool.not_eq_true'] at hob
    obtain ⟨hst, hle⟩ := hob
    have hsm1 := lenB_ok hle
    obtain ⟨ds0, g1, g2, g3, g4⟩ := strS_all hP hok
    obtain ⟨kd2, hd2⟩ := t2.dict
    have nap : a ≠ p := fun e => by rw [e, hd0] at hA; cases hA
    have sb3 : SameBut p H H3 := s1.trans ((Same.but p s2).trans s3)
    have g13 := DpAll.ext (ExtB.but sb3) hd0 g1
    have hA3 := sb3 _ _ nap hA
    have hD3 := Dp.ext (ExtB.but s3) hd2 hDp2
    have hTab3 := Tabs.but hTab sb3 hd0
    have cz : ∀ {n : Nat}, n ≤ 1000 → n ≤ sizeLine := fun h => by rw [sizeLine_eq]; omega
    refine ⟨_, rfl, _, rfl, _, rfl, a, _, rfl, SqL.of hA3, fun l1 hl1 => ?_⟩
    rw [cutT]
    refine ⟨_, rfl, Nat.le_of_ble_eq_true rfl, fun l2 hl2 => ?_⟩
    have u1 := same_upd (o := .lst (xs.take at2)) hl1
    have u2 := same_upd (o := .lst [x]) hl2
    refine ⟨l1, l2, _, _, rfl, rfl, u2 _ _ upd_same, upd_same, cz (by rw [List.length_take]; show _ + 1 ≤ _; omega), fun l3 hl3 => ?_⟩
    have u3 := same_upd (o := .lst (xs.take at2 ++ [x])) hl3
    refine ⟨_, rfl, _, rfl, _, rfl, noPart ⟨a, _, rfl, SqL.of ((u1.trans (u2.trans u3)) _ _ hA3), fun l4 hl4 => ?_⟩⟩
    rw [cutD xs at2 (by omega)]
    have u4 := same_upd (o := .lst (xs.drop at2)) hl4
    refine ⟨l3, l4, _, _, rfl, rfl, u4 _ _ upd_same, upd_same, cz (by rw [List.length_append, List.length_take, List.length_drop]; show _ + 1 + _ ≤ _; omega), fun l5 hl5 => ?_⟩
    have u5 := same_upd (o := .lst (xs.take at2 ++ [x] ++ xs.drop at2)) hl5
    have u15 := u1.trans (u2.trans (u3.trans (u4.trans u5)))
    have hL5 : (upd (upd (upd (upd (upd H3 l1 (.lst (xs.take at2))) l2 (.lst [x])) l3 (.lst (xs.take at2 ++ [x]))) l4 (.lst (xs.drop at2))) l5 (.lst (xs.take at2 ++ [x] ++ xs.drop at2))) l5 = some (.lst (xs.take at2 ++ [x] ++ xs.drop at2)) := upd_same
    generalize upd (upd (upd (upd (upd H3 l1 (.lst (xs.take at2))) l2 (.lst [x])) l3 (.lst (xs.take at2 ++ [x]))) l4 (.lst (xs.drop at2))) l5 (.lst (xs.take at2 ++ [x] ++ xs.drop at2)) = H5 at u15 hL5 ⊢
    refine ⟨_, rfl, ?_⟩
    refine gds_cons (gd_lst (K := K) (ds := [.none, .tuple [.tuple [.int 0], .int 1]]) (gds_cons gd_non (gds_cons (gd_tup (gds_cons (gd_tup (gds_cons gd_int gds_nil)) (gds_cons gd_int gds_nil))) gds_nil))) gds_nil _ _ _ ?_
    intro vl2 H6 s6 hdd
    obtain ⟨Lb, ly, rfl, hLs2, hdl2⟩ := dp1L hdd
    have hyl := DpAll.length hdl2
    have t6 := t3.same (u15.trans s6)
    obtain ⟨kd6, hd6⟩ := t6.dict
    refine ⟨p, c, Lb, b + 1 + 1, ly, rfl, t6, by omega, hLs2, (by rw [hyl]; exact Nat.le_of_ble_eq_true rfl), (by rw [hyl]; exact Nat.le_of_ble_eq_true rfl), fun iw2 x2 H7 hx2 s7 t7 => ?_⟩
    obtain ⟨d2, hd2', hDp6⟩ := DpAll.at hdl2 hx2
    have hsm2 : Sm2 d2 := lenB_ok (List.all_eq_true.mp (show ([.none, .tuple [.tuple [.int 0], .int 1]] : List PyData).all lenB = true by decide +kernel) d2 (List.mem_of_getElem? hd2'))
    have hD7 := Dp.ext (ExtB.but s7) hd6 hDp6
    have nl5 : l5 ≠ p := fun e => by rw [e] at hL5; rw [e] at hl5; obtain ⟨k3, hp3⟩ := t3.dict; exact absurd hl5 (by
      have := ((u1.trans (u2.trans (u3.trans u4)))) p _ hp3
      rw [this]; simp)
    refine ⟨Nat.le_of_ble_eq_true rfl, fun l6 hl6 => ?_⟩
    have u6 := same_upd (o := .lst [x2]) hl6
    refine ⟨l5, l6, _, _, rfl, rfl, u6 _ _ (s7 _ _ nl5 (s6 _ _ hL5)), upd_same, cz (by rw [List.length_append, List.length_append, List.length_take, List.length_drop]; show _ + 1 + _ + 1 ≤ _; omega), fun l7 hl7 => ?_⟩
    have u7 := same_upd (o := .lst (xs.take at2 ++ [x] ++ xs.drop at2 ++ [x2])) hl7
    have u67 := u6.trans u7
    have sb7 : SameBut p H3 (upd (upd H7 l6 (.lst [x2])) l7 (.lst (xs.take at2 ++ [x] ++ xs.drop at2 ++ [x2]))) := (Same.but p (u15.trans s6)).trans (s7.trans (Same.but p u67))
    obtain ⟨kd3, hd3⟩ := t3.dict
    have g17 := DpAll.ext (ExtB.but sb7) hd3 g13
    have e17 := Dp.ext (ExtB.but sb7) hd3 hD3
    have e27 := Dp.same u67 hD7
    have hTale : Dp K (upd (upd H7 l6 (.lst [x2])) l7 (.lst (xs.take at2 ++ [x] ++ xs.drop at2 ++ [x2]))) (.ref l7) (.list (ds0.take at2 ++ d1 :: (ds0.drop at2 ++ [d2]))) := by
      refine .lst (SqL.of upd_same) ?_
      rw [show ds0.take at2 ++ d1 :: (ds0.drop at2 ++ [d2]) = ds0.take at2 ++ [d1] ++ ds0.drop at2 ++ [d2] by simp]
      exact DpAll.app (DpAll.app (DpAll.app (DpAll.take at2 g17) (.cons e17 .nil)) (DpAll.drop at2 g17)) (.cons e27 .nil)
    have t8 := t7.same u67
    have hTab8 := Tabs.but hTab3 sb7 hd3
    have sb8 : SameBut p H _ := sb3.trans sb7
    generalize upd (upd H7 l6 (.lst [x2])) l7 (.lst (xs.take at2 ++ [x] ++ xs.drop at2 ++ [x2])) = H8 at hTale t8 hTab8 sb8 ⊢
    have hlen0 : (ds0.take at2).length = at2 := by rw [List.length_take]; omega
    have hNeed : NeedR (.list (ds0.take at2 ++ d1 :: (ds0.drop at2 ++ [d2]))) (some ((at2 : Nat) : Int)) := by
      have := need_at (ds := ds0.take at2) (es := ds0.drop at2 ++ [d2]) (d := d1) (fun y hy => g3 y (List.mem_of_mem_take hy)) hst (by simp only [List.length_append, List.length_take, List.length_cons, List.length_drop, List.length_nil]; omega)
      rw [hlen0] at this
      exact this
    have hSm : Sm3 (.list (ds0.take at2 ++ d1 :: (ds0.drop at2 ++ [d2]))) := by
      refine sm3_of (by simp only [List.length_append, List.length_take, List.length_cons, List.length_drop, List.length_nil]; omega) fun y hy => ?_
      rcases List.mem_append.mp hy with h | h
      · exact g4 y (List.mem_of_mem_take h)
      · rcases List.mem_cons.mp h with h | h
        · rw [h]; exact hsm1
        · rcases List.mem_append.mp h with h | h
          · exact g4 y (List.mem_of_mem_drop h)
          · rw [List.mem_singleton.mp h]; exact hsm2
    dsimp only
    obtain ⟨kd8, hd8⟩ := t8.dict
    have mkbad : ∀ {HH : Hp} {v : V} {d : PyData} {i : Int} {E : XK} {Q2 : VK} {xo dxo : Addr}, HH xo = none → HH dxo = none → dxo ≠ xo → DpX K HH v d → Sm3 d → NeedR d (some i) → (∀ dd H', Same HH H' → H' dd = some (.xd [("index", .int i)]) → E (.ref (He.ga K "BadRow")) (some dd) H') → spInitX K (.ref xo :: ([v] ++ [.bl true])) (upd (upd HH dxo (.own xo)) xo (.ins (cR K) dxo [])) Q2 E := by
      intro HH v d i E Q2 xo dxo hxo hdxo hno hdx hsm hnd kE
      have s0 : Same HH (upd HH dxo (.own xo)) := same_upd hdxo
      have hx0 : upd HH dxo (.own xo) xo = none := by rw [upd_ne (Ne.symm hno)]; exact hxo
      have s1 := s0.trans (same_upd (o := .ins (cR K) dxo []) hx0)
      exact ⟨xo, dxo, v, true, rfl, upd_same, .inr ⟨rfl, d, i, DpX.same s1 hdx, hsm, hnd, fun dd H' s' hdd => kE dd H' (s1.trans s') hdd⟩⟩
    refine if_noS (fun H9 => ExtB p H8 H9 ∧ TapeOk H9 p c (b + 1 + 1 + 1) ∧ Tabs (TS K) H9) (fun Q1 k1 => ?_) (fun H9 P9 => ?_)
    · refine ⟨hTab8, fun H9 e9 tb9 p0 hp0 => ?_⟩
      have v9 := same_upd (o := .tup [.str "fine", .non, .bl false]) hp0
      refine ⟨_, rfl, fun xo dxo hxo hdxo hno => mkbad hxo hdxo hno (.inl (Dp.same v9 (Dp.ext (ExtB.ext p e9) hd8 hTale))) hSm hNeed fun dd H11 s11 hdd => .inl ⟨rfl, dd, _, rfl, hdd, fun q1 hq1 => ?_⟩⟩
      have v11 := same_upd (o := .tup [.str "row", .int (at2 : Int), .bl false]) hq1
      refine ⟨_, rfl, Nat.le_of_ble_eq_true rfl, fun q2 hq2 => ?_⟩
      have v12 := same_upd (o := .tup [.str "row", .int (at2 : Int), .bl false]) hq2
      have vA := v9.trans (s11.trans (v11.trans v12))
      exact ne_same (dpSIB (SqT.of (v12 _ _ upd_same))) (dpSIB (SqT.of upd_same)) (shSIB _ (by decide +kernel)) ⟨_, rfl, k1 _ ⟨(ExtB.ext p e9).trans (ExtB.same p vA), (t8.extN e9).same vA, tb9.ext vA⟩⟩
    obtain ⟨x9, t9, tb9⟩ := P9
    refine ⟨_, rfl, fun dp hdp => ?_⟩
    obtain ⟨ndp, _⟩ := t9.ne hdp
    have w1 := same_upd (o := .dK []) hdp
    refine ⟨Nat.le_of_ble_eq_true rfl, fun e1 he1 => ?_⟩
    have w2 := same_upd (o := .tup [.int 0]) he1
    refine ⟨Nat.le_of_ble_eq_true rfl, fun e2 he2 => ?_⟩
    have w3 := same_upd (o := .tup [.ref e1, .int 1]) he2
    refine ⟨Nat.le_of_ble_eq_true rfl, fun e3 he3 => ?_⟩
    have w4 := same_upd (o := .lst [.ref e2]) he3
    refine ⟨e3, 21, _, rfl, rfl, upd_same, by omega, by omega, (by rw [sizeLine_eq]; show 1 * 21 ≤ _; omega), fun e4 he4 => ?_⟩
    have w5 := same_upd (o := .lst (List.replicate (21 : Int).toNat [V.ref e2]).flatten) he4
    refine ⟨Nat.le_of_ble_eq_true rfl, fun e5 he5 => ?_⟩
    have w6 := same_upd (o := .lst [.non]) he5
    refine ⟨e5, 21, _, rfl, rfl, upd_same, by omega, by omega, (by rw [sizeLine_eq]; show 1 * 21 ≤ _; omega), fun e6 he6 => ?_⟩
    have w7 := same_upd (o := .lst (List.replicate (21 : Int).toNat [V.non]).flatten) he6
    refine ⟨Nat.le_of_ble_eq_true rfl, fun LV hLV => ?_⟩
    have w8 := same_upd (o := .lst [.non, .int 0, .str "rows", .bl true, .ref dp, .ref e4, .ref e6]) hLV
    have w38 := w4.trans (w5.trans (w6.trans (w7.trans w8)))
    have hdpF := (w2.trans (w3.trans w38)) _ _ (upd_same (H := H9) (a := dp) (o := .dK []))
    have h2F : Dp K _ (.ref e2) (.tuple [.tuple [.int 0], .int 1]) := Dp.same (K := K) w38 (.tup (SqT.of upd_same) (.cons (.tup (SqT.of (w3 _ _ upd_same)) (.cons (.int 0) .nil)) (.cons (.int 1) .nil)))
    have h4F := (w6.trans (w7.trans w8)).seq (K := K) (SqL.of (upd_same (a := e4) (o := .lst (List.replicate (21 : Int).toNat [V.ref e2]).flatten)))
    have h6F := w8.seq (K := K) (SqL.of (upd_same (a := e6) (o := .lst (List.replicate (21 : Int).toNat [V.non]).flatten)))
    have wA := w1.trans (w2.trans (w3.trans w38))
    have t10 := t9.same wA
    obtain ⟨kd10, hd10⟩ := t10.dict
    refine ⟨p, c, LV, b + 1 + 1 + 1, _, rfl, t10, by omega, SqL.of upd_same, Nat.le_of_ble_eq_true rfl, Nat.le_of_ble_eq_true rfl, fun iw3 x3 H11 hx3 s11 t11 => ?_⟩
    obtain ⟨d3, hx11, hsm3, hnd3⟩ := wrongV hd10 s11 ndp hdpF h2F h4F h6F iw3 x3 hx3
    have x11 : ExtB p H8 H11 := x9.trans ((ExtB.same p wA).trans (ExtB.but s11))
    have tb11 := Tabs.but (tb9.ext wA) s11 hd10
    obtain ⟨kd11, hd11⟩ := t11.dict
    refine ⟨tb11, fun H12 e12 tb12 p0 hp0 => ?_⟩
    have v12 := same_upd (o := .tup [.str "fine", .non, .bl false]) hp0
    refine ⟨_, rfl, fun xo dxo hxo hdxo hno => mkbad hxo hdxo hno (DpX.same v12 (DpX.extN e12 hd11 hx11)) hsm3 hnd3 fun dd H13 s13 hdd => .inl ⟨rfl, dd, _, rfl, hdd, fun q1 hq1 => ?_⟩⟩
    have v13 := same_upd (o := .tup [.str "row", .int (-1), .bl false]) hq1
    refine ⟨_, rfl, Nat.le_of_ble_eq_true rfl, fun q2 hq2 => ?_⟩
    have v14 := same_upd (o := .tup [.str "row", .int (-1), .bl false]) hq2
    have vA := v12.trans (s13.trans (v13.trans v14))
    exact eq_same (dpSIB (SqT.of (v14 _ _ upd_same))) (dpSIB (SqT.of upd_same)) (shSIB _ (by decide +kernel)) (k _ ((ExtB.but sb8).trans (x11.trans ((ExtB.ext p e12).trans (ExtB.same p vA)))) (((t11.extN e12).same vA).mono (by omega)) (tb12.ext vA))
end
end R4
set_option Elab.async false
set_option linter.all false
set_option maxRecDepth 100000
set_option maxHeartbeats 4000000
namespace R4
open PySem L2 PySem.GW
open RM (Rn)
section
variable {w : World} {K : PySem.W.Frag} {mg : Str → Option Value} {base : Heap}

open LamX
set_option pp.maxSteps 700
theorem init_b0 (T : Top K mg) : ∃ ds, Vals [.ref (He.dflAt ("Row", some "__init__") 0 K), .bl true] ds ∧ Binds K (fdOf K (me K "__init__")) ["self", "stretches", "checked"] ds := by
  have F := T.D_init0
  exact F.binds (ps := ["self", "stretches", "checked"]) 1 0 (by simp) rfl (by
    intro T1 D1 doc pm an cdv ct us its ks h1 h2 h3
    match us, its, ks, h1, h2, h3 with
    | [_], [_], [_], _, _, _ => exact ⟨_, rfl, _, _, _, _, _, _, rfl, rfl, rfl⟩) (by simp)
theorem mk_rowS {H : Hp} {a x dx : Addr} {ss : List Rn} {R : Hp → Prop} (hx : H x = none) (hdx : H dx = none) (hne : dx ≠ x) (h : StrS K H a ss) (hs : ss.length ≤ 20) (hk : ∀ r ∈ ss, StrOk r) (k : ∀ H', Same H H' → RowAt K H' x ss → R H') :
    spInitX K [.ref x, .ref a, .bl true] (upd (upd H dx (.own x)) x (.ins (cR K) dx [])) (fun v H2 => v = .non ∧ R H2) E0 := by
  have s0 : Same H (upd H dx (.own x)) := same_upd hdx
  have hx0 : upd H dx (.own x) x = none := by rw [upd_ne (Ne.symm hne)]; exact hx
  have s1 : Same H (upd (upd H dx (.own x)) x (.ins (cR K) dx [])) := s0.trans (same_upd hx0)
  have hfit : Fit ss := ⟨by omega, fun r hr => ⟨fun e => by have := (hk r hr).1; rw [e] at this; exact absurd this (by decide), Nat.le_trans (hk r hr).2.1 (by decide)⟩⟩
  exact ⟨x, dx, .ref a, true, rfl, upd_same, .inl ⟨a, ss, rfl, h.same s1, hfit, fun _ => ⟨hs, hk⟩, fun H' sb hr => ⟨rfl, k H' (fun b o e => sb b o (ne_of_none e hx) (s1 b o e)) hr⟩⟩⟩
theorem Wd4.ok {ss : List Rn} (h : Wd4 ss) : ∀ r ∈ ss, StrOk r := fun r hr => by
  obtain ⟨h1, h2, h3, h4⟩ := h r hr
  exact ⟨h1, by omega, h3, Nat.le_trans h4 (by decide +kernel)⟩
theorem Wd4.fit {ss : List Rn} (h : Wd4 ss) (hl : ss.length ≤ 1000) : Fit ss := ⟨by omega, fun r hr => ⟨fun e => by have := (h r hr).1; rw [e] at this; exact absurd this (by decide), by have := (h r hr).2.1; omega⟩⟩
theorem flatS_con (r : Rn) (ss : List Rn) : RM.flatS (r :: ss) = RM.rep r.1 (r.1.length * r.2) ++ RM.flatS ss := by
  have := RM.flatS_append [r] ss
  rw [RM.flatS_one] at this
  exact this
theorem Wd4.len : ∀ {ss : List Rn}, Wd4 ss → (RM.flatS ss).length ≤ ss.length * 12
  | [], _ => Nat.le_refl _
  | r :: ss, h => by
    have ih := Wd4.len (ss := ss) (fun z hz => h z (List.mem_cons_of_mem _ hz))
    obtain ⟨h1, h2, h3, h4⟩ := h r List.mem_cons_self
    have h5 : r.1.length * r.2 ≤ 4 * 3 := Nat.mul_le_mul h2 h4
    rw [flatS_con, List.length_append, RM.rep_length, List.length_cons, Nat.succ_mul]
    omega
theorem Wd4.lt : ∀ {ss : List Rn}, Wd4 ss → Lt4 (RM.flatS ss)
  | [], _ => fun x hx => by cases hx
  | r :: ss, h => by
    have ih := Wd4.lt (ss := ss) (fun z hz => h z (List.mem_cons_of_mem _ hz))
    obtain ⟨h1, h2, h3, h4⟩ := h r List.mem_cons_self
    rw [flatS_con]
    refine Lt4.app (fun x hx => ?_) ih
    unfold RM.rep at hx
    obtain ⟨i, _, e⟩ := List.mem_map.mp hx
    have hi : i % r.1.length < r.1.length := Nat.mod_lt _ (by omega)
    rw [List.getD_eq_getElem?_getD, List.getElem?_eq_getElem hi] at e
    rw [← e]
    exact h3 _ (List.getElem_mem hi)
def dTold (r : Rn) : PyData := .tuple [.list (r.1.map PyData.int), .int (r.2 : Int)]
def dPair (r : Rn) : PyData := .tuple [.tuple (r.1.map PyData.int), .int (r.2 : Int)]
theorem shMap {f : Rn → PyData} (h1 : ∀ r, PyData.canLay0 (f r) = true) (h2 : ∀ r, PyData.depth (f r) ≤ 10) : ∀ ss : List Rn, PyData.canLayAll0 (ss.map f) = true ∧ PyData.depthAll (ss.map f) ≤ 10
  | [] => ⟨rfl, Nat.zero_le _⟩
  | r :: ss => by
    obtain ⟨i1, i2⟩ := shMap h1 h2 ss
    refine ⟨?_, ?_⟩
    · show (PyData.canLay0 (f r) && PyData.canLayAll0 (ss.map f)) = true
      rw [h1, i1]
      rfl
    · show max (PyData.depth (f r)) (PyData.depthAll (ss.map f)) ≤ 10
      have := h2 r
      omega
theorem shaped_of {d : PyData} (h1 : PyData.canLay0 d = true) (h2 : PyData.depth d ≤ 11) : SeqAt.shaped d = true := by
  unfold SeqAt.shaped
  rw [h1]
  simp only [Bool.true_and]
  exact decide_eq_true (by omega)
theorem told_ok (r : Rn) : PyData.canLay0 (dTold r) = true ∧ PyData.depth (dTold r) ≤ 10 := by
  constructor
  · show (PyData.canLayAll0 (r.1.map PyData.int) && (PyData.canLay0 (.int (r.2 : Int)) && true)) = true
    rw [canInts]
    rfl
  · show max (PyData.depthAll (r.1.map PyData.int) + 1) (max 0 0) + 1 ≤ 10
    rw [depInts]
    decide
theorem pair_ok (r : Rn) : PyData.canLay0 (dPair r) = true ∧ PyData.depth (dPair r) ≤ 10 := by
  constructor
  · show (PyData.canLayAll0 (r.1.map PyData.int) && (PyData.canLay0 (.int (r.2 : Int)) && true)) = true
    rw [canInts]
    rfl
  · show max (PyData.depthAll (r.1.map PyData.int) + 1) (max 0 0) + 1 ≤ 10
    rw [depInts]
    decide
theorem shTold (ss : List Rn) : SeqAt.shaped (.list (ss.map dTold)) = true := by
  obtain ⟨h1, h2⟩ := shMap (fun r => (told_ok r).1) (fun r => (told_ok r).2) ss
  exact shaped_of h1 (by show PyData.depthAll (ss.map dTold) + 1 ≤ 11; omega)
theorem shPair (ss : List Rn) : SeqAt.shaped (.tuple (ss.map dPair)) = true := by
  obtain ⟨h1, h2⟩ := shMap (fun r => (pair_ok r).1) (fun r => (pair_ok r).2) ss
  exact shaped_of h1 (by show PyData.depthAll (ss.map dPair) + 1 ≤ 11; omega)
theorem pairs_dp {H : Hp} : ∀ {vs : List V} {ss : List Rn}, Pairs K H vs ss → DpAll K H vs (ss.map dPair)
  | _, _, .nil => .nil
  | _, _, .cons ⟨a, w, e, h1, h2⟩ t => by
    subst e
    exact .cons (.tup h1 (.cons (.tup h2 (dpInts _)) (.cons (.int _) .nil))) (pairs_dp t)
/-- an entry of what is told: its word is a list of its own -/
def ToldAt (K : PySem.W.Frag) (H0 H : Hp) (D : Addr) (v : V) (r : Rn) : Prop := ∃ tp wl, v = .ref tp ∧ SqT K H tp [.ref wl, .int (r.2 : Int)] ∧ H wl = some (.lst (r.1.map V.int)) ∧ H0 wl = none ∧ wl ≠ D
theorem told_dp {H0 H : Hp} {D : Addr} : ∀ {vs : List V} {ss : List Rn}, Paired (ToldAt K H0 H D) vs ss → DpAll K H vs (ss.map dTold)
  | _, _, .nil => .nil
  | _, _, .cons ⟨a, w, e, h1, h2, _⟩ t => by
    subst e
    exact .cons (.tup h1 (.cons (.lst (SqL.of h2) (dpInts _)) (.cons (.int _) .nil))) (told_dp t)
theorem ToldAt.pair {H0 H : Hp} {D : Addr} {v : V} {r : Rn} (h : ToldAt K H0 H D v r) : PairS K H v r := by
  obtain ⟨tp, wl, e, h1, h2, _⟩ := h
  exact ⟨tp, wl, e, h1, .inl (SqL.of h2)⟩
theorem ToldAt.ext {H0 H H' : Hp} {D p : Addr} {k : List (Key × V)} {v : V} {r : Rn} (e : ExtB p H H') (hp : H p = some (.dK k)) (h : ToldAt K H0 H D v r) : ToldAt K H0 H' D v r := by
  obtain ⟨tp, wl, e1, h1, h2, h3, h4⟩ := h
  exact ⟨tp, wl, e1, e.sqT hp h1, e _ _ (fun z => by rw [z, hp] at h2; cases h2) h2 (fun ps z => by cases z), h3, h4⟩
theorem ExtB.rowAt {H H' : Hp} {p q : Addr} {ss : List Rn} {k : List (Key × V)} (s : ExtB p H H') (hp : H p = some (.dK k)) (h : RowAt K H q ss) : RowAt K H' q ss := by
  obtain ⟨dx, T, vs, h1, h2, h3⟩ := h
  exact ⟨dx, T, vs, s _ _ (fun e => by rw [e, hp] at h1; cases h1) h1 (fun ps z => by cases z), s.sqT hp h2, s.pairs hp h3⟩
/-- what stays: stretches, the tuple, the row -/
structure Wr (K : PySem.W.Frag) (p c sa fl x : Addr) (b : Nat) (xs : List V) (ss : List Rn) (l : List Int) (H : Hp) : Prop where
  tp : TapeOk H p c b
  tb : Tabs (TS K) H
  sa : H sa = some (.lst xs)
  pr : Pairs K H xs ss
  rw : RowAt K H x ss
  fl : SqT K H fl (l.map V.int)
section
variable {p c sa fl x : Addr} {b b' : Nat} {xs : List V} {ss : List Rn} {l : List Int} {H H' : Hp}
theorem Wr.ext (h : Wr K p c sa fl x b xs ss l H) (e : ExtB p H H') (t : TapeOk H' p c b') (tb : Tabs (TS K) H') : Wr K p c sa fl x b' xs ss l H' := by
  obtain ⟨k, hp⟩ := h.tp.dict
  exact ⟨t, tb, e _ _ (fun z => by have := h.sa; rw [z, hp] at this; cases this) h.sa (fun ps z => by cases z), e.pairs hp h.pr, e.rowAt hp h.rw, e.sqT hp h.fl⟩
theorem Wr.same (h : Wr K p c sa fl x b xs ss l H) (e : Same H H') : Wr K p c sa fl x b xs ss l H' := h.ext (ExtB.same p e) (h.tp.same e) (h.tb.ext e)
theorem Wr.but (h : Wr K p c sa fl x b xs ss l H) (e : SameBut p H H') (t : TapeOk H' p c b') : Wr K p c sa fl x b' xs ss l H' := by
  obtain ⟨k, hp⟩ := h.tp.dict
  exact h.ext (ExtB.but e) t (Tabs.but h.tb e hp)
theorem tabs_upd {T : List (Addr × Str)} {D : Addr} {ys : List V} {o : HO} (t : Tabs T H) (hD : H D = some (.lst ys)) : Tabs T (upd H D o) := fun q hq => by
  obtain ⟨ps, h1, h2, h3⟩ := t q hq
  refine ⟨ps, by rw [upd_ne (fun e => by rw [e, hD] at h1; cases h1)]; exact h1, h2, fun pos cv hc => ?_⟩
  obtain ⟨c, e1, e2⟩ := h3 pos cv hc
  exact ⟨c, e1, by rw [upd_ne (fun e => by rw [e, hD] at e2; unfold CodeO at e2; cases e2)]; exact e2⟩
theorem Wr.upd {D : Addr} {ys zs : List V} (h : Wr K p c sa fl x b xs ss l H) (hD : H D = some (.lst ys)) (n1 : D ≠ c) (n2 : D ≠ sa) : Wr K p c sa fl x b xs ss l (L2.upd H D (.lst zs)) := by
  obtain ⟨k, hp⟩ := h.tp.dict
  have np : D ≠ p := fun e => by rw [e, hp] at hD; cases hD
  obtain ⟨dx, T, vs, h1, h2, h3⟩ := h.rw
  exact ⟨h.tp.updL np n1, tabs_upd h.tb hD, by rw [upd_ne n2.symm]; exact h.sa, Pairs.upd hD h.pr, ⟨dx, T, vs, by rw [upd_ne (fun e => by rw [e, hD] at h1; cases h1)]; exact h1, sqT_upd hD h2, Pairs.upd hD h3⟩, sqT_upd hD h.fl⟩
theorem Wr.row (h : Wr K p c sa fl x b xs ss l H) (hf : Fit ss) (e : RM.flatS ss = l) : RowOf K H x l ss.length := ⟨ss, h.rw, hf, Nat.le_refl _, e⟩
end
/-- the entries whose words grow -/
def Grow (K : PySem.W.Frag) (c sa D : Addr) (m : Nat) (H : Hp) (v : V) : Prop := ∃ tp wl t, v = .ref tp ∧ SqT K H tp [.ref wl, .int t] ∧ (∃ ys, H wl = some (.lst ys) ∧ ys.length ≤ m) ∧ wl ≠ c ∧ wl ≠ sa ∧ wl ≠ D
theorem Grow.upd {H : Hp} {c sa D wl : Addr} {m : Nat} {v : V} {ys : List V} {y : V} (h : Grow K c sa D m H v) (hw : H wl = some (.lst ys)) (hl : ys.length ≤ m) : Grow K c sa D (m + 1) (L2.upd H wl (.lst (ys ++ [y]))) v := by
  obtain ⟨tp, w2, t, e, h1, ⟨zs, h2, h3⟩, h4⟩ := h
  refine ⟨tp, w2, t, e, sqT_upd hw h1, ?_, h4⟩
  by_cases q : w2 = wl
  · exact ⟨ys ++ [y], by rw [q, upd_same], by rw [List.length_append]; show ys.length + 1 ≤ _; omega⟩
  · exact ⟨zs, by rw [upd_ne q]; exact h2, by omega⟩
def spLaw (K : PySem.W.Frag) : Sp := fun vs H Q _ => ∃ (a : Addr) (ns : List Int), vs = [.ref a] ∧ SqL K H a (ns.map V.int) ∧ ns.length ≤ 63 ∧ Tabs (TS K) H ∧ ∀ H', Q (.bl true) H'

theorem ok_law (T : Top K mg) (U : Tb K mg base) : FnOkG PW w K mg base CX0 14 (fa K "law") (fdOf K (fa K "law")) ["_law_script"] (spLaw K) := by
  refine T.F_law.okG sc_law (fun vs H Q E h => ?_) (fun A outer s H vs Q E hgd hr h => ?_)
  · obtain ⟨a, ns, rfl, _hS, _hns, _hTab, _k⟩ := h
    rfl
  · obtain ⟨a, ns, rfl, hS, hns, hTab, k⟩ := h
    have hu := hu_of hr
    obtain ⟨gk, kbp⟩ := plain_kb T
    obtain ⟨dsp, hvp, hbp⟩ := plain_b T
    obtain ⟨dsi, hvi, hbi⟩ := init_b T
    obtain ⟨dsi0, hvi0, hbi0⟩ := init_b0 T
    refine ⟨_, (pss_cons (ps_set (i := 1) sc_law.nd rfl (Or.inl rfl) (pe_call (ok__law_begin T) (hr.mono (by decide)) rfl T.g__law_begin T.F__law_begin.kp T.b__law_begin .nil pass0 (pa_cons (pv 0) pa_nil)))
      (pss_cons (ps_for PassesOwn.never rfl (pi_range1 (by rfl) T.z_range (pa_cons pe_int pa_nil)) (pg_name (i := 2) sc_law.nd rfl (Or.inl rfl)) (pss_cons (ps_set (i := 3) sc_law.nd rfl (Or.inl rfl) (pe_call (ok__law_stretches T) (hr.mono (by decide)) rfl T.g__law_stretches T.F__law_stretches.kp T.b__law_stretches .nil pass0 (pa_cons (pv 1) pa_nil)))
      (pss_cons (ps_set (i := 4) sc_law.nd rfl (Or.inl rfl) (pe_call (ok__law_spelled T) (hr.mono (by decide)) rfl T.g__law_spelled T.F__law_spelled.kp T.b__law_spelled .nil pass0 (pa_cons (pv 3) pa_nil)))
      (pss_cons (ps_setLc (i := 5) (own := [("_law_word", 7), ("_law_times", 8)]) (te := tTup (tCons (tCB (fun xs H Q => ∃ p ys, xs = [.ref p] ∧ (SqL K H p ys ∨ SqT K H p ys) ∧ ∀ l, H l = none → Q (.ref l) (upd H l (.lst ys))) (tCons (tVar 7) tNil)) (tCons (tVar 8) tNil))) (g := gTup K 2 (gCons (gName 7) (gCons (gName 8) gNil))) (by rfl) sc_law.nd rfl rfl (sw_true rfl rfl rfl (by decide +kernel)) (pi_list (pv 3)) (blkOk_by (own := [("_law_word", 7), ("_law_times", 8)]) (N := ["_law_script", "_law_tape", "_law_turn", "_law_stretches_here", "_law_flat", "_law_told", "_law_row", "_law_word", "_law_times", "_law_again"]) (sc := (defScope s_law)) (by decide +kernel)) (fun _ _ _ _ _ => (pg_tup (by rfl) (pgs_cons (pg_name (i := 7) sc_law.nd rfl (Or.inl rfl)) (pgs_cons (pg_name (i := 8) sc_law.nd rfl (Or.inl rfl)) pgs_nil)))) (fun _ _ _ _ _ => pts_nil) (fun _ _ _ _ _ => (pe_tup (pa_cons (pe_callTy call_list_of (by rfl) T.z_list (by decide +kernel) (pa_cons (pv 7) pa_nil)) (pa_cons (pv 8) pa_nil)))))
      (pss_cons (ps_set (i := 6) sc_law.nd rfl (Or.inl rfl) (pe_make T.mkR (okx_init T) (hr.mono (by decide)) (by rfl) T.g_Row hbi hvi passE0 (pa_cons (pv 5) pa_nil)))
      (pss_cons (ps_if (PW.pt (pw_or (pt_not (pt_val (pe_callB call_isi (by rfl) T.z_isinstance (by decide +kernel) (pa_cons (pv 6) (pa_cons (pe_glob (v := .ref (He.ga K "Row")) rfl T.g_Row rfl) pa_nil))))) (pw_or (pt_not (pt_val (pe_callG (by exact hgd) (ok__law_wrong_right T U) (hr.mono (by decide)) rfl T.g__law_wrong_right T.F__law_wrong_right.kp T.b__law_wrong_right .nil pass0 (pa_cons (pv 1) (pa_cons (pv 5) pa_nil))))) (pw_or1 (pt_cmpR (op_neD hr.units) (pv 5) (pe_lc (own := [("_law_word", 7), ("_law_times", 8)]) (te := tTup (tCons (tCB (fun xs H Q => ∃ p ys, xs = [.ref p] ∧ (SqL K H p ys ∨ SqT K H p ys) ∧ ∀ l, H l = none → Q (.ref l) (upd H l (.lst ys))) (tCons (tVar 7) tNil)) (tCons (tVar 8) tNil))) (g := gTup K 2 (gCons (gName 7) (gCons (gName 8) gNil))) (by rfl) sc_law.nd (pi_list (pv 3)) (blkOk_by (own := [("_law_word", 7), ("_law_times", 8)]) (N := ["_law_script", "_law_tape", "_law_turn", "_law_stretches_here", "_law_flat", "_law_told", "_law_row", "_law_word", "_law_times", "_law_again"]) (sc := (defScope s_law)) (by decide +kernel)) (fun _ _ _ _ _ => (pg_tup (by rfl) (pgs_cons (pg_name (i := 7) sc_law.nd rfl (Or.inl rfl)) (pgs_cons (pg_name (i := 8) sc_law.nd rfl (Or.inl rfl)) pgs_nil)))) (fun _ _ _ _ _ => pts_nil) (fun _ _ _ _ _ => (pe_tup (pa_cons (pe_callTy call_list_of (by rfl) T.z_list (by decide +kernel) (pa_cons (pv 7) pa_nil)) (pa_cons (pv 8) pa_nil))))) (nomark _)))))) (pss_one (ps_ret pe_bl)) pss_nil)
      (pss_cons (ps_for PassesOwn.never rfl (pi_list (pv 5)) (pg_tup (by rfl) (pgs_cons (pg_name (i := 7) sc_law.nd rfl (Or.inl rfl)) (pgs_cons (pg_name (i := 8) sc_law.nd rfl (Or.inl rfl)) pgs_nil))) (pss_one (ps_expr (pe_bm PySem.F.plainAttrs_list PySem.F.slot_list_append PySem.F.type_list_append mt_append (pv 7) (pa_cons pe_int pa_nil)))))
      (pss_cons (ps_expr (pe_bm PySem.F.plainAttrs_list PySem.F.slot_list_append PySem.F.type_list_append mt_append (pv 5) (pa_cons (pe_tup (pa_cons (pe_tup (pa_cons pe_int pa_nil)) (pa_cons pe_int pa_nil))) pa_nil)))
      (pss_cons (ps_if (pt_cmpR (op_neD hr.units) (pe_fld (pv 6) rfl) (pe_callTy call_tuple_of (by rfl) T.z_tuple (by decide +kernel) (pa_cons (pv 3) pa_nil)) (nomark _)) (pss_one (ps_ret pe_bl)) pss_nil)
      (pss_cons (ps_set (i := 9) sc_law.nd rfl (Or.inl rfl) (pe_make T.mkR (ok_Row___init__ T) (hr.mono (by decide)) (by rfl) T.g_Row hbi hvi pass0 (pa_cons (pe_call (ok__law_cut T) (hr.mono (by decide)) rfl T.g__law_cut T.F__law_cut.kp T.b__law_cut .nil pass0 (pa_cons (pv 1) (pa_cons (pv 4) pa_nil))) pa_nil)))
      (pss_cons (ps_if (PW.pt (pw_or (pt_not (pt_cmpR (op_ownI (op := .Eq) (fun _ _ => rfl) T.m___eq__.at_ T.m___eq__.fn (ok_Row___eq__ T) T.b_Row___eq__ (hr.mono (by decide))) (pv 6) (pv 9) (nomark _))) (pw_or (pt_not (pt_val (pe_callG (by exact hgd) (ok__law_parts_right T U) (hr.mono (by decide)) rfl T.g__law_parts_right T.F__law_parts_right.kp T.b__law_parts_right .nil pass0 (pa_cons (pv 1) (pa_cons (pv 6) (pa_cons (pv 4) pa_nil)))))) (pw_or1 (pt_not (pt_val (pe_callG (by exact hgd) (ok__law_parts_right T U) (hr.mono (by decide)) rfl T.g__law_parts_right T.F__law_parts_right.kp T.b__law_parts_right .nil pass0 (pa_cons (pv 1) (pa_cons (pv 9) (pa_cons (pv 4) pa_nil)))))))))) (pss_one (ps_ret pe_bl)) pss_nil)
      (pss_cons (ps_if (PW.pt (pw_or (pt_not (pt_val (pe_call (ok__law_pair_right T) (hr.mono (by decide)) rfl T.g__law_pair_right T.F__law_pair_right.kp T.b__law_pair_right .nil pass0 (pa_cons (pv 1) (pa_cons (pv 6) (pa_cons (pv 4) (pa_cons (pe_call (ok__law_beside T) (hr.mono (by decide)) rfl T.g__law_beside T.F__law_beside.kp T.b__law_beside .nil pass0 (pa_cons (pv 1) (pa_cons (pv 4) pa_nil))) pa_nil))))))) (pw_or1 (pt_not (pt_val (pe_call (ok__law_pair_right T) (hr.mono (by decide)) rfl T.g__law_pair_right T.F__law_pair_right.kp T.b__law_pair_right .nil pass0 (pa_cons (pv 1) (pa_cons (pv 9) (pa_cons (pv 4) (pa_cons (pe_call (ok__law_beside T) (hr.mono (by decide)) rfl T.g__law_beside T.F__law_beside.kp T.b__law_beside .nil pass0 (pa_cons (pv 1) (pa_cons (pv 4) pa_nil))) pa_nil)))))))))) (pss_one (ps_ret pe_bl)) pss_nil)
      (pss_one (ps_if (pt_cmpR (op_neD hr.units) (pe_fld (pv 6) rfl) (pe_callTy call_tuple_of (by rfl) T.z_tuple (by decide +kernel) (pa_cons (pv 3) pa_nil)) (nomark _)) (pss_one (ps_ret pe_bl)) pss_nil))))))))))))))
      (pss_one (ps_ret (pe_and (pe_cmpR op_eq (pe_meth0 (pe_make0 T.mkR (okx_init T) (hr.mono (by decide)) (by rfl) T.g_Row hbi0 hvi0 passE0) T.cl T.m_total (ok_Row_total T) (hr.mono (by decide)) T.b_Row_total .nil pass0) pe_int (nomark _)) (pe_and (pe_cmpR (op_eqD hr.units) (pe_meth0 (pe_make0 T.mkR (okx_init T) (hr.mono (by decide)) (by rfl) T.g_Row hbi0 hvi0 passE0) T.cl T.m_plain (ok_Row_plain T) (hr.mono (by decide)) hbp hvp pass0) (pe_tup pa_nil) (nomark _)) (pe_and (pe_cmpR (op_ownI (op := .Eq) (fun _ _ => rfl) T.m___eq__.at_ T.m___eq__.fn (ok_Row___eq__ T) T.b_Row___eq__ (hr.mono (by decide))) (pe_make T.mkR (ok_Row___init__ T) (hr.mono (by decide)) (by rfl) T.g_Row hbi hvi pass0 (pa_cons (pe_lst (pa_cons (pe_tup (pa_cons (pe_tup (pa_cons pe_int (pa_cons pe_int pa_nil))) (pa_cons pe_int pa_nil))) pa_nil)) pa_nil)) (pe_make0 T.mkR (okx_init T) (hr.mono (by decide)) (by rfl) T.g_Row hbi0 hvi0 passE0) (nomark _)) (pe_one (pe_not (pe_meth (pe_make0 T.mkR (okx_init T) (hr.mono (by decide)) (by rfl) T.g_Row hbi0 hvi0 passE0) T.cl T.m_before (ok_Row_before T) (hr.mono (by decide)) T.b_Row_before .nil pass0 (pa_cons (pe_tup pa_nil) pa_nil))))))))))), ?_⟩
    refine ⟨_, rfl, a, ns, rfl, hS, hns, fun p c H1 s1 _ t1 => ?_⟩
    have hTab1 := hTab.ext s1
    refine ⟨3, rfl, by decide, by decide, for_range (n := 3) (fun i σ H2 => TapeOk H2 p c (i * 1000) ∧ Tabs (TS K) H2 ∧ ∃ o2 o3 o4 o5 o6 o7 o8 o9, σ = [some (.ref a), some (.ref p), o2, o3, o4, o5, o6, o7, o8, o9]) ⟨t1.mono (by omega), hTab1, _, _, _, _, _, _, _, _, rfl⟩ ?_ ?_⟩
    · rintro i σ H2 hi ⟨t2, tb2, o2, o3, o4, o5, o6, o7, o8, o9, rfl⟩
      obtain ⟨kd2, hd2⟩ := t2.dict
      refine ⟨_, rfl, p, c, _, rfl, t2, by omega, fun sa ss H3 s3 t3 fsa hRL hl6 hw => ?_⟩
      obtain ⟨kd3, hd3⟩ := t3.dict
      have tb3 := Tabs.but tb2 s3 hd2
      obtain ⟨xs, hsa, hpr⟩ := hRL
      have hF : Fit ss := hw.fit (by omega)
      have hok := hw.ok
      have hfl := hw.len
      have hlt := hw.lt
      obtain ⟨l, hl⟩ : ∃ l, l = RM.flatS ss := ⟨_, rfl⟩
      rw [← hl] at hfl hlt
      refine ⟨_, rfl, sa, xs, ss, rfl, .inl (SqL.of hsa), hpr, hF, (by rw [← hl]; omega), fun fl H4 s4 hf4 => ?_⟩
      rw [← hl] at hf4
      have t4 := t3.same s4
      have tb4 := tb3.ext s4
      have hsa4 := s4 _ _ hsa
      have hpr4 := Pairs.same s4 hpr
      have hxl : xs.length = ss.length := Paired.length hpr
      refine ⟨_, rfl, sa, rfl, ⟨_, SqL.of hsa4⟩, fun D hD => ?_⟩
      refine lc_list (K := K) (a := sa) (xs := xs) (fun j H5 => Same H4 H5 ∧ ∃ vs, H5 D = some (.lst vs) ∧ Paired (ToldAt K H4 H5 D) vs (ss.take j)) ⟨same_upd hD, [], upd_same, .nil⟩ (fun j H5 _ ⟨s5, _⟩ => SqL.of (s5 _ _ hsa4)) ?_ ?_
      · rintro j y H5 hj ⟨s5, vs, hD5, hacc⟩
        obtain ⟨r, hr1, q⟩ := paired_at hpr4 hj
        obtain ⟨p1, wd, rfl, q1, q2⟩ := q.same s5
        have hjl : j < ss.length := (List.getElem?_eq_some_iff.mp hr1).1
        have hvl : vs.length = (ss.take j).length := Paired.length hacc
        rw [List.length_take] at hvl
        refine ⟨p1, _, rfl, q1, rfl, _, _, rfl, _, _, rfl, rfl, rfl, ?_⟩
        refine ⟨_, rfl, wd, _, rfl, .inr q2, fun wl hwl => ⟨_, rfl, Nat.le_of_ble_eq_true rfl, fun tp htp => ?_⟩⟩
        have u1 := same_upd (o := .lst (r.1.map V.int)) hwl
        have u2 := same_upd (o := .tup [.ref wl, .int (r.2 : Int)]) htp
        have u12 := u1.trans u2
        have nwD : wl ≠ D := fun e => by rw [e, hD5] at hwl; cases hwl
        have hw4 : H4 wl = none := fresh_back s5 hwl
        refine ⟨vs, u12 _ _ hD5, (by rw [sizeLine_eq]; omega), same_at hD (s5.trans u12), _, upd_same, ?_⟩
        rw [take_at hr1]
        have up : ∀ {v : V} {r : Rn}, ToldAt K H4 (upd (upd H5 wl (.lst (r.1.map V.int))) tp (.tup [.ref wl, .int (r.2 : Int)])) D v r → True := fun _ => trivial
        refine Paired.append (Paired.mapP hacc fun v r' ⟨tp', wl', e, h1, h2, h3, h4⟩ => ⟨tp', wl', e, sqT_upd (u12 _ _ hD5) (Same.seqT u12 h1), by rw [upd_ne h4]; exact u12 _ _ h2, h3, h4⟩) ⟨tp, wl, rfl, sqT_upd (u12 _ _ hD5) (SqT.of upd_same), by rw [upd_ne nwD]; exact u2 _ _ upd_same, hw4, nwD⟩
      · rintro H5 ⟨s5, vs, hD5, htold⟩
        rw [hxl, List.take_length] at htold
        have hvl : vs.length = ss.length := Paired.length htold
        have t5 := t4.same s5
        have tb5 := tb4.ext s5
        obtain ⟨nDp, nDc⟩ := t4.ne hD
        have nDsa : D ≠ sa := fun e => by rw [e, hsa4] at hD; cases hD
        refine ⟨_, rfl, fun x dx hx hdx hne => mk_rowS hx hdx hne ⟨vs, .inl (SqL.of hD5), Paired.mapP htold fun _ _ h => h.pair⟩ (by omega) hok fun H6 s6 hrow => ?_⟩
        have W6 : Wr K p c sa fl x _ xs ss l H6 := ⟨t5.same s6, tb5.ext s6, (s5.trans s6) _ _ hsa4, Pairs.same (s5.trans s6) hpr4, hrow, Same.seqT (s5.trans s6) hf4⟩
        have hD6 := s6 _ _ hD5
        obtain ⟨kd6, hd6⟩ := W6.tp.dict
        have told6 : Paired (ToldAt K H4 H6 D) vs ss := Paired.mapP htold fun _ _ h => by
          obtain ⟨kd5, hd5⟩ := t5.dict
          exact h.ext (ExtB.same p s6) hd5
        dsimp only
        refine if_noS (fun H7 => Wr K p c sa fl x (i * 1000 + 100 + 10) xs ss l H7 ∧ H7 D = some (.lst vs) ∧ Paired (ToldAt K H4 H7 D) vs ss) (fun Q1 k1 => ?_) (fun H7 P7 => ?_)
        · refine ⟨_, rfl, _, _, _, _, true, rfl, .own _, T.ty (W6.row hF hl.symm), T.k_row, _, rfl, ifF rfl ?_⟩
          refine ⟨_, rfl, _, rfl, p, c, D, _, vs, ss, rfl, W6.tp, by omega, hD6, Paired.mapP told6 fun _ _ h => h.pair, by omega, hok, W6.tb, fun H7 x7 t7 tb7 => ⟨_, rfl, ifF rfl ?_⟩⟩
          have W7 := W6.ext x7 t7 tb7
          have hD7 := x7 _ _ nDp hD6 (fun ps z => by cases z)
          have told7 : Paired (ToldAt K H4 H7 D) vs ss := Paired.mapP told6 fun _ _ h => h.ext x7 hd6
          refine ⟨_, rfl, _, rfl, sa, rfl, ⟨_, SqL.of W7.sa⟩, fun D2 hD2 => ?_⟩
          refine lc_list (K := K) (a := sa) (xs := xs) (fun j H8 => Same H7 H8 ∧ ∃ us, H8 D2 = some (.lst us) ∧ Paired (ToldAt K H7 H8 D2) us (ss.take j)) ⟨same_upd hD2, [], upd_same, .nil⟩ (fun j H8 _ ⟨s8, _⟩ => SqL.of (s8 _ _ W7.sa)) ?_ ?_
          · rintro j y H8 hj ⟨s8, us, hE8, hacc⟩
            obtain ⟨r, hr1, q⟩ := paired_at W7.pr hj
            obtain ⟨p1, wd, rfl, q1, q2⟩ := q.same s8
            have hjl : j < ss.length := (List.getElem?_eq_some_iff.mp hr1).1
            have hvl2 : us.length = (ss.take j).length := Paired.length hacc
            rw [List.length_take] at hvl2
            refine ⟨p1, _, rfl, q1, rfl, _, _, rfl, _, _, rfl, rfl, rfl, ?_⟩
            refine ⟨_, rfl, wd, _, rfl, .inr q2, fun wl hwl => ⟨_, rfl, Nat.le_of_ble_eq_true rfl, fun tp htp => ?_⟩⟩
            have u1 := same_upd (o := .lst (r.1.map V.int)) hwl
            have u2 := same_upd (o := .tup [.ref wl, .int (r.2 : Int)]) htp
            have u12 := u1.trans u2
            have nwD : wl ≠ D2 := fun e => by rw [e, hE8] at hwl; cases hwl
            have hw4 : H7 wl = none := fresh_back s8 hwl
            refine ⟨us, u12 _ _ hE8, (by rw [sizeLine_eq]; omega), same_at hD2 (s8.trans u12), _, upd_same, ?_⟩
            rw [take_at hr1]
            refine Paired.append (Paired.mapP hacc fun v r' ⟨tp', wl', e, h1, h2, h3, h4⟩ => ⟨tp', wl', e, sqT_upd (u12 _ _ hE8) (Same.seqT u12 h1), by rw [upd_ne h4]; exact u12 _ _ h2, h3, h4⟩) ⟨tp, wl, rfl, sqT_upd (u12 _ _ hE8) (SqT.of upd_same), by rw [upd_ne nwD]; exact u2 _ _ upd_same, hw4, nwD⟩
          · rintro H8 ⟨s8, us, hE8, hacc⟩
            rw [hxl, List.take_length] at hacc
            obtain ⟨kd7, hd7⟩ := W7.tp.dict
            have told8 : Paired (ToldAt K H4 H8 D) vs ss := Paired.mapP told7 fun _ _ h => h.ext (ExtB.same p s8) hd7
            exact ne_same (.lst (SqL.of (s8 _ _ hD7)) (told_dp told8)) (.lst (SqL.of hE8) (told_dp hacc)) (shTold ss) ⟨_, rfl, k1 _ ⟨W7.same s8, s8 _ _ hD7, told8⟩⟩
        obtain ⟨W7, hD7, told7⟩ := P7
        have grow7 : ∀ v ∈ vs, Grow K c sa D (40 + 0) H7 v := fun v hv => by
          obtain ⟨iv, hiv⟩ := List.getElem?_of_mem hv
          obtain ⟨r, hr1, tp, wl, e, h1, h2, h3, h4⟩ := paired_at told7 hiv
          obtain ⟨ns4, z4, r4, g1, g2, _⟩ := t4
          exact ⟨tp, wl, _, e, h1, ⟨_, h2, by rw [List.length_map]; have := (hw r (List.mem_of_getElem? hr1)).2.1; omega⟩, (fun z => by rw [z, g2] at h3; cases h3), (fun z => by rw [z, hsa4] at h3; cases h3), h4⟩
        refine ⟨_, rfl, D, rfl, ⟨_, SqL.of hD7⟩, for_list (K := K) (a := D) (xs := vs) (fun j σ H8 => Wr K p c sa fl x (i * 1000 + 100 + 10) xs ss l H8 ∧ H8 D = some (.lst vs) ∧ (∀ v ∈ vs, Grow K c sa D (40 + j) H8 v) ∧ ∃ o2 o7 o8 o9, σ = [some (.ref a), some (.ref p), o2, some (.ref sa), some (.ref fl), some (.ref D), some (.ref x), o7, o8, o9]) ⟨W7, hD7, grow7, _, _, _, _, rfl⟩ (fun j σ H8 _ ⟨_, e, _⟩ => SqL.of e) ?_ ?_⟩
        · rintro j v σ H8 hj ⟨W8, hD8, hg, o2, o7, o8, o9, rfl⟩
          have hjl : j < vs.length := (List.getElem?_eq_some_iff.mp hj).1
          obtain ⟨tp, wl, tt, rfl, g1, ⟨ys, g2, g3⟩, n1, n2, n3⟩ := hg v (List.mem_of_getElem? hj)
          refine ⟨tp, _, rfl, g1, rfl, _, _, rfl, _, _, rfl, rfl, ?_⟩
          refine ⟨_, rfl, .inl ⟨rfl, _, SqL.of g2⟩, wl, ys, _, rfl, rfl, g2, (by rw [sizeLine_eq]; omega), ?_⟩
          exact ⟨W8.upd g2 n1 n2, by rw [upd_ne n3.symm]; exact hD8, fun v2 hv2 => (hg v2 hv2).upd g2 g3, _, _, _, _, rfl⟩
        rintro σ H8 ⟨W8, hD8, hg, o2, o7, o8, o9, rfl⟩
        refine ⟨_, rfl, .inl ⟨rfl, _, SqL.of hD8⟩, Nat.le_of_ble_eq_true rfl, fun e1 he1 => ⟨Nat.le_of_ble_eq_true rfl, fun e2 he2 => ?_⟩⟩
        have u12 := (same_upd (o := .tup [.int 1]) he1).trans (same_upd (o := .tup [.ref e1, .int 1]) he2)
        refine ⟨D, vs, _, rfl, rfl, u12 _ _ hD8, (by rw [sizeLine_eq]; omega), ?_⟩
        have W9 := (W8.same u12).upd (zs := vs ++ [.ref e2]) (u12 _ _ hD8) nDc nDsa
        generalize L2.upd (upd (upd H8 e1 (.tup [.int 1])) e2 (.tup [.ref e1, .int 1])) D (.lst (vs ++ [.ref e2])) = H9 at W9 ⊢
        have strc : ∀ {HH : Hp} {bb : Nat} {Q1 : Bool → Hp → Prop}, Wr K p c sa fl x bb xs ss l HH → (∀ H', Same HH H' → Q1 false H') → ∃ dxr Tr vr, HH x = some (.ins (cR K) dxr [("stretches", .ref Tr)]) ∧ SqT K HH Tr vr ∧ ∀ tq, HH tq = none → rNeD K (.ref Tr) (.ref tq) (upd HH tq (.tup xs)) (fun v H' => ∃ kk, v = .bl kk ∧ Q1 kk H') := by
          intro HH bb Q1 WW k1
          obtain ⟨dxr, Tr, vr, g1, g2, g3⟩ := WW.rw
          refine ⟨dxr, Tr, vr, g1, g2, fun tq htq => ?_⟩
          have uu := same_upd (o := .tup xs) htq
          exact ne_same (.tup (Same.seqT uu g2) (pairs_dp (Pairs.same uu g3))) (.tup (SqT.of upd_same) (pairs_dp (Pairs.same uu WW.pr))) (shPair ss) ⟨_, rfl, k1 _ uu⟩
        dsimp only
        refine if_noS (fun H10 => Same H9 H10) (fun Q1 k1 => ?_) (fun H10 s10 => ?_)
        · obtain ⟨dxr, Tr, vr, g1, g2, g3⟩ := strc W9 k1
          exact ⟨_, rfl, x, _, dxr, _, _, rfl, g1, T.cl, T.nS, rfl, _, rfl, sa, _, rfl, .inl ⟨SqL.of W9.sa, fun tq htq => g3 tq htq⟩⟩
        have W10 := W9.same s10
        refine ⟨_, rfl, _, rfl, p, c, fl, _, l, rfl, W10.tp, by omega, W10.fl, by omega, hlt, fun a2 ss2 H11 s11 t11 f11 hRL2 hsl2 hok2 hfl2 => nilI fun x2 dx2 hx2 hdx2 hne2 => mk_row hx2 hdx2 hne2 (by obtain ⟨vs2, g1, g2⟩ := hRL2; exact ⟨vs2, SqL.of g1, g2⟩) hsl2 hok2 fun H12 s12 hX => ?_⟩
        rw [hfl2] at hX
        have W12 := (W10.but s11 t11).same s12
        have hX12 : RowOf K H12 x2 l 20 := hX.mono hsl2
        dsimp only
        refine if_noS (fun H13 => Wr K p c sa fl x (i * 1000 + 100 + 10 + 150 + 10 + 10) xs ss l H13 ∧ RowOf K H13 x2 l 20) (fun Q1 k1 => ?_) (fun H13 P13 => ?_)
        · refine ⟨_, rfl, _, rfl, r_eqM (W12.row hF hl.symm) hX12 fun H13 s13 => ⟨_, rfl, ifF (nd rfl) ?_⟩⟩
          have W13 := W12.same s13
          have hX13 := hX12.same s13
          obtain ⟨kd13, hd13⟩ := W13.tp.dict
          refine ⟨_, rfl, _, rfl, _, rfl, p, c, x, fl, _, ss.length, l, rfl, W13.tp, by omega, W13.row hF hl.symm, by omega, W13.fl, by omega, W13.tb, fun H14 x14 t14 tb14 => ⟨_, rfl, ifF rfl ?_⟩⟩
          have W14 := W13.ext x14 t14 tb14
          have hX14 := x14.row hd13 hX13
          obtain ⟨kd14, hd14⟩ := W14.tp.dict
          refine ⟨_, rfl, _, rfl, _, rfl, p, c, x2, fl, _, 20, l, rfl, W14.tp, by omega, hX14, by omega, W14.fl, by omega, W14.tb, fun H15 x15 t15 tb15 => ⟨_, rfl, k1 _ ⟨W14.ext x15 t15 tb15, x15.row hd14 hX14⟩⟩⟩
        obtain ⟨W13, hX13⟩ := P13
        refine if_noS (fun H14 => Wr K p c sa fl x (i * 1000 + 100 + 10 + 150 + 10 + 10 + 10 + 150 + 10 + 150) xs ss l H14) (fun Q1 k1 => ?_) (fun H14 W14 => ?_)
        · obtain ⟨kd13, hd13⟩ := W13.tp.dict
          refine ⟨_, rfl, _, rfl, _, rfl, _, rfl, _, rfl, p, c, fl, _, l, rfl, W13.tp, by omega, W13.fl, by omega, hlt, fun ob m H14 s14 t14 hob hml hm4 => ?_⟩
          have W14 := W13.but s14 t14
          have hX14 := s14.row hd13 hX13
          obtain ⟨kd14, hd14⟩ := W14.tp.dict
          refine ⟨p, c, x, fl, ob, _, ss.length, l, m, rfl, W14.tp, by omega, W14.row hF hl.symm, by omega, W14.fl, hob, by omega, hml, hm4, fun H15 s15 t15 => ⟨_, rfl, ifF rfl ?_⟩⟩
          have W15 := W14.but s15 t15
          have hX15 := s15.row hd14 hX14
          obtain ⟨kd15, hd15⟩ := W15.tp.dict
          refine ⟨_, rfl, _, rfl, _, rfl, _, rfl, _, rfl, p, c, fl, _, l, rfl, W15.tp, by omega, W15.fl, by omega, hlt, fun ob2 m2 H16 s16 t16 hob2 hml2 hm42 => ?_⟩
          have W16 := W15.but s16 t16
          have hX16 := s16.row hd15 hX15
          refine ⟨p, c, x2, fl, ob2, _, 20, l, m2, rfl, W16.tp, by omega, hX16, by omega, W16.fl, hob2, by omega, hml2, hm42, fun H17 s17 t17 => ⟨_, rfl, k1 _ (W16.but s17 t17)⟩⟩
        refine if_no (fun H15 => Same H14 H15) (fun Q1 k1 => ?_) (fun H15 s15 => ?_)
        · obtain ⟨dxr, Tr, vr, g1, g2, g3⟩ := strc W14 k1
          exact ⟨_, rfl, x, _, dxr, _, _, rfl, g1, T.cl, T.nS, rfl, _, rfl, sa, _, rfl, .inl ⟨SqL.of W14.sa, fun tq htq => g3 tq htq⟩⟩
        have W15 := W14.same s15
        exact ⟨W15.tp.mono (by omega), W15.tb, _, _, _, _, _, _, _, _, rfl⟩
    · rintro σ H2 ⟨t2, tb2, o2, o3, o4, o5, o6, o7, o8, o9, rfl⟩
      have nilR : ∀ {HH : Hp} {x : Addr}, RowAt K HH x [] → RowOf K HH x [] 2 := fun h => ⟨[], h, ⟨by decide, fun r hr => nomatch hr⟩, by decide, rfl⟩
      have mk0 : ∀ {HH : Hp} {x dx : Addr} {R : Hp → Prop}, HH x = none → HH dx = none → dx ≠ x → (∀ H', Same HH H' → RowOf K H' x [] 2 → R H') → spInitX K [.ref x, .ref (He.dflAt ("Row", some "__init__") 0 K), .bl true] (upd (upd HH dx (.own x)) x (.ins (cR K) dx [])) (fun v H2 => v = .non ∧ R H2) E0 := fun hx hdx hne kk => mk_rowS (ss := []) hx hdx hne ⟨[], .inr (T.e0_nil _), .nil⟩ (by decide) (fun r hr => nomatch hr) fun H' s' h' => kk H' s' (nilR h')
      intro x1 dx1 hx1 hdx1 hne1
      refine mk0 hx1 hdx1 hne1 fun H3 s3 r3 => ?_
      refine m_total r3 fun H4 s4 => tcI ⟨rfl, _, rfl, ifT (decide_eq_true rfl) ?_⟩
      intro x2 dx2 hx2 hdx2 hne2
      refine mk0 hx2 hdx2 hne2 fun H5 s5 r5 => ?_
      refine m_plain r5 (by decide) fun q6 H6 s6 h6 => ⟨Nat.zero_le _, fun z hz => ?_⟩
      refine eqT (a := []) (b := []) (Same.seqT (same_upd hz) h6) (SqT.of upd_same) ⟨_, rfl, ifT (decide_eq_true rfl) ?_⟩
      refine ⟨Nat.le_of_ble_eq_true rfl, fun e1 he1 => ⟨Nat.le_of_ble_eq_true rfl, fun e2 he2 => ⟨Nat.le_of_ble_eq_true rfl, fun e3 he3 => nilI fun x3 dx3 hx3 hdx3 hne3 => ?_⟩⟩⟩
      have u2 := same_upd (o := .tup [.ref e1, .int 0]) he2
      have u3 := same_upd (o := .lst [.ref e2]) he3
      refine mk_row (ss := [([1, 2], 0)]) hx3 hdx3 hne3 ⟨_, SqL.of upd_same, .cons ⟨e2, e1, rfl, SqT.of (u3 _ _ upd_same), SqT.of ((u2.trans u3) _ _ upd_same)⟩ .nil⟩ (by decide) (fun r hr => by rw [List.mem_singleton.mp hr]; exact ⟨by decide, by decide, by decide, Nat.zero_le _⟩) fun H7 s7 r7 => ?_
      intro x4 dx4 hx4 hdx4 hne4
      refine mk0 hx4 hdx4 hne4 fun H8 s8 r8 => ?_
      refine r_eqM (r7.same s8) r8 fun H9 s9 => ⟨_, rfl, ifT (decide_eq_true (by decide)) ?_⟩
      intro x5 dx5 hx5 hdx5 hne5
      refine mk0 hx5 hdx5 hne5 fun H10 s10 r10 => ?_
      refine m_at r10 (fun _ => rfl) ⟨Nat.zero_le _, fun z2 hz2 => ?_⟩
      have u4 := same_upd (o := .tup []) hz2
      exact ⟨x5, z2, [], [], 2, rfl, r10.same u4, .inr ⟨.inr (SqT.of upd_same), by decide, by decide⟩, fun H11 s11 => ⟨_, rfl, k _⟩⟩
end
end R4
set_option Elab.async false
set_option linter.all false
set_option maxRecDepth 100000
set_option maxHeartbeats 0
namespace R4
open PySem L2 PySem.GW
def dfs : List He.FnD := ([⟨("is_integer", none), "is_integer", "is_integer", defArgs s_is_integer, defBody s_is_integer, defScope s_is_integer⟩, ⟨("is_whole", none), "is_whole", "is_whole", defArgs s_is_whole, defBody s_is_whole, defScope s_is_whole⟩, ⟨("is_list", none), "is_list", "is_list", defArgs s_is_list, defBody s_is_list, defScope s_is_list⟩, ⟨("is_row", none), "is_row", "is_row", defArgs s_is_row, defBody s_is_row, defScope s_is_row⟩, ⟨("is_bud_word", none), "is_bud_word", "is_bud_word", defArgs s_is_bud_word, defBody s_is_bud_word, defScope s_is_bud_word⟩, ⟨("is_stretch", none), "is_stretch", "is_stretch", defArgs s_is_stretch, defBody s_is_stretch, defScope s_is_stretch⟩, ⟨("need_stretches", none), "need_stretches", "need_stretches", defArgs s_need_stretches, defBody s_need_stretches, defScope s_need_stretches⟩, ⟨("extent_of", none), "extent_of", "extent_of", defArgs s_extent_of, defBody s_extent_of, defScope s_extent_of⟩, ⟨("row_of", none), "row_of", "row_of", defArgs s_row_of, defBody s_row_of, defScope s_row_of⟩, ⟨("as_row", none), "as_row", "as_row", defArgs s_as_row, defBody s_as_row, defScope s_as_row⟩, ⟨("cut_front", none), "cut_front", "cut_front", defArgs s_cut_front, defBody s_cut_front, defScope s_cut_front⟩, ⟨("common_of", none), "common_of", "common_of", defArgs s_common_of, defBody s_common_of, defScope s_common_of⟩, ⟨("_law_begin", none), "_law_begin", "_law_begin", defArgs s__law_begin, defBody s__law_begin, defScope s__law_begin⟩, ⟨("_law_draw", none), "_law_draw", "_law_draw", defArgs s__law_draw, defBody s__law_draw, defScope s__law_draw⟩, ⟨("_law_pick", none), "_law_pick", "_law_pick", defArgs s__law_pick, defBody s__law_pick, defScope s__law_pick⟩, ⟨("_law_ten", none), "_law_ten", "_law_ten", defArgs s__law_ten, defBody s__law_ten, defScope s__law_ten⟩, ⟨("_law_is", none), "_law_is", "_law_is", defArgs s__law_is, defBody s__law_is, defScope s__law_is⟩, ⟨("_law_stretches", none), "_law_stretches", "_law_stretches", defArgs s__law_stretches, defBody s__law_stretches, defScope s__law_stretches⟩, ⟨("_law_spelled", none), "_law_spelled", "_law_spelled", defArgs s__law_spelled, defBody s__law_spelled, defScope s__law_spelled⟩, ⟨("_law_cut", none), "_law_cut", "_law_cut", defArgs s__law_cut, defBody s__law_cut, defScope s__law_cut⟩] : List He.FnD) ++ ([⟨("_law_beside", none), "_law_beside", "_law_beside", defArgs s__law_beside, defBody s__law_beside, defScope s__law_beside⟩, ⟨("_law_refused", none), "_law_refused", "_law_refused", defArgs s__law_refused, defBody s__law_refused, defScope s__law_refused⟩, ⟨("_law_parts_right", none), "_law_parts_right", "_law_parts_right", defArgs s__law_parts_right, defBody s__law_parts_right, defScope s__law_parts_right⟩, ⟨("_law_pair_right", none), "_law_pair_right", "_law_pair_right", defArgs s__law_pair_right, defBody s__law_pair_right, defScope s__law_pair_right⟩, ⟨("_law_wrong_right", none), "_law_wrong_right", "_law_wrong_right", defArgs s__law_wrong_right, defBody s__law_wrong_right, defScope s__law_wrong_right⟩, ⟨("law", none), "law", "law", defArgs s_law, defBody s_law, defScope s_law⟩, ⟨("Row", some "runs"), "runs", "Row.runs", defArgs s_Row_runs, defBody s_Row_runs, defScope s_Row_runs⟩, ⟨("Row", some "total"), "total", "Row.total", defArgs s_Row_total, defBody s_Row_total, defScope s_Row_total⟩, ⟨("Row", some "bud"), "bud", "Row.bud", defArgs s_Row_bud, defBody s_Row_bud, defScope s_Row_bud⟩, ⟨("Row", some "beginning"), "beginning", "Row.beginning", defArgs s_Row_beginning, defBody s_Row_beginning, defScope s_Row_beginning⟩, ⟨("Row", some "behind"), "behind", "Row.behind", defArgs s_Row_behind, defBody s_Row_behind, defScope s_Row_behind⟩, ⟨("Row", some "before"), "before", "Row.before", defArgs s_Row_before, defBody s_Row_before, defScope s_Row_before⟩, ⟨("Row", some "common"), "common", "Row.common", defArgs s_Row_common, defBody s_Row_common, defScope s_Row_common⟩, ⟨("Row", some "__add__"), "__add__", "Row.__add__", defArgs s_Row___add__, defBody s_Row___add__, defScope s_Row___add__⟩, ⟨("Row", some "__eq__"), "__eq__", "Row.__eq__", defArgs s_Row___eq__, defBody s_Row___eq__, defScope s_Row___eq__⟩] : List He.FnD)
def fws : List He.DefD := [⟨("Row", some "__init__"), "__init__", "Row.__init__", defArgs s_Row___init__, defBody s_Row___init__, defScope s_Row___init__, [.adr (He.dflAt ("Row", some "__init__") 0)], [("checked", .bl true)]⟩, ⟨("Row", some "plain"), "plain", "Row.plain", defArgs s_Row_plain, defBody s_Row_plain, defScope s_Row_plain, [], [("most", .int 2000)]⟩]
def xsL : List Str := ["NoPiece", "TooMany", "BadRow", "OutsideRow"]
def ysL : List IniV := [iniVal (inClass (top 2) 0), iniVal (inClass (top 3) 0), iniVal (inClass (top 4) 0), iniVal (inClass (top 5) 0)]
def tfs : List He.Defn := [("_law_parts_right", none), ("_law_wrong_right", none)]
def fileN : Str := PW.main.file
def gB (K : PySem.W.Frag) (x : Str) : Bool := He.eqO (PySem.W.nsIn K mainGlobals x) (some (some (.ref (He.ga K x)))) && PySem.W.keepIn K (.ref (He.ga K x))
def fns : List Str := (["is_integer", "is_whole", "is_list", "is_row", "is_bud_word", "is_stretch", "need_stretches", "extent_of", "row_of", "as_row", "cut_front", "common_of", "_law_begin", "_law_draw", "_law_pick", "_law_ten", "_law_is", "_law_stretches", "_law_spelled", "_law_cut"] : List Str) ++ (["_law_beside", "_law_refused", "_law_parts_right", "_law_pair_right", "_law_wrong_right", "law"] : List Str)
def frees : List Str := (["isinstance", "int", "bool", "list", "tuple", "len", "min", "max", "sum", "all", "range", "enumerate", "super", "str", "dict", "repr"] : List Str)
def fas : List He.Fa := [.int "MOST_BUDS" 4, .int "MOST_PLAIN" 2000, .int "MOST_STRETCHES" 20, .int "MOST_WORD" 40, .int "MOST_TIMES" (10 ^ 300), .cls "Row", .noat "Row" "stretches", .mkr "Row", .meth "Row" "runs", .meth "Row" "total", .meth "Row" "bud", .meth "Row" "beginning", .meth "Row" "behind", .meth "Row" "before", .meth "Row" "common", .meth "Row" "__add__", .meth "Row" "__eq__", .meth "Row" "plain"]
def xfs : List (Str × List Str) := [("NoPiece", ["row"]), ("TooMany", ["most"]), ("BadRow", ["index"]), ("OutsideRow", ["number"])]
def exs (K : PySem.W.Frag) : Bool := (He.eqO (PySem.W.findIn K (.ref (cR K)) "__class__") (some (some (.builtin "object.__class__"))) && (He.eqO (PySem.W.specialIn K (.builtin "object.__class__") "__get__") (some (some (.builtin "getset_descriptor.__get__"))) && (decide (PySem.W.takesIn K (.builtin "object.__class__") = some true) && (decide (PySem.W.mroIn K (cR K) (.type "object") = some true) && (decide (PySem.W.kitOne K (.ref (cR K)) (.ref (cR K)) = some true) && (decide (PySem.W.kitOne K (.type "tuple") (.ref (cR K)) = some false) && (decide (PySem.W.kitOne K (.type "list") (.ref (cR K)) = some false) && (decide (PySem.W.kitOne K (.type "int") (.ref (cR K)) = some false) && (decide (PySem.W.kitOne K (.type "str") (.ref (cR K)) = some false) && (decide (PySem.W.kitOne K (.type "bool") (.ref (cR K)) = some false) && (decide (PySem.W.kitOne K (.type "NoneType") (.ref (cR K)) = some false) && (decide (PySem.W.kitOne K (.type "float") (.ref (cR K)) = some false) && (decide (PySem.W.kitOne K (.type "dict") (.ref (cR K)) = some false) && ((PySem.W.selfFirst K (cR K) == true) && (He.eqO (PySem.W.findIn K (.ref (cR K)) "__ne__") (some (some (.builtin "object.__ne__"))) && (decide (PySem.W.subIn K (.ref (cR K)) (.type "object") = some true) && (decide (PySem.W.exmOne K (.ref (He.ga K "BadRow")) (.ref (He.ga K "BadRow")) = some true) && (decide (PySem.W.exmOne K (.ref (He.ga K "OutsideRow")) (.ref (He.ga K "BadRow")) = some false) && (decide (PySem.W.exmOne K (.ref (He.ga K "OutsideRow")) (.ref (He.ga K "OutsideRow")) = some true) && (decide (PySem.W.exmOne K (.ref (He.ga K "TooMany")) (.ref (He.ga K "BadRow")) = some false) && (decide (PySem.W.exmOne K (.ref (He.ga K "TooMany")) (.ref (He.ga K "OutsideRow")) = some false) && (decide (PySem.W.exmOne K (.ref (He.ga K "TooMany")) (.ref (He.ga K "TooMany")) = some true) && (decide (PySem.W.kitOne K (.ref (He.ga K "BadRow")) (.ref (He.ga K "OutsideRow")) = some false) && (decide (PySem.W.kitOne K (.ref (He.ga K "BadRow")) (.ref (He.ga K "TooMany")) = some false) && (decide (PySem.W.kitOne K (.ref (He.ga K "OutsideRow")) (.ref (He.ga K "TooMany")) = some false) && (decide (PySem.W.subIn K (.type "tuple") (.ref (cR K)) = some false) && decide (PySem.W.subIn K (.ref (cR K)) (.type "tuple") = some false)))))))))))))))))))))))))))
def tup0B (K : PySem.W.Frag) (a : Addr) : Bool := match K.lookup a with
  | some o => decide (o.cls = .type "tuple") && (match o.data with
    | .seq its _ => its.isEmpty
    | _ => false)
  | none => false
def fb (K : PySem.W.Frag) : Bool := (fns.all fun x => gB K x) && ((frees.all fun x => He.eqO (PySem.W.nsIn K mainGlobals x) (some none)) && (gB K "WebError" && (gB K "Row" && (He.eqO (PySem.W.nsIn K cStatics "thirdparty.any") (some none) && ((xfs.all fun p => xB fileN K p.1 p.2) && ((fas.all fun f => f.ok K) && (exs K && (decide (tbA K (fa K "_law_parts_right") ≠ tbA K (fa K "_law_wrong_right")) && tup0B K (He.dflAt ("Row", some "__init__") 0 K)))))))))
abbrev RW : PySem.W.OpenRow := PySem.W.OpenLaw.row PySem.Challenge.rw_growwebs_k23_rows_told_in_two_ways
def hk : PySem.W.Hook := hook3 6 fb dfs xsL ysL fws tfs
def ob (s : PySem.W.SharedT) : Al3 × Bool := obs3G 6 fb dfs xsL fws tfs (HandSHeadRun.getT s)
theorem ob_eq (s : PySem.W.SharedT) : ob s = hk.obs s.abs := obs3G_eq (HandSHeadRun.getT_eq s)
def loose : List Str := (["WebError", "NoPiece", "TooMany", "BadRow", "OutsideRow", "MOST_BUDS", "MOST_PLAIN", "MOST_STRETCHES", "MOST_WORD", "MOST_TIMES", "is_integer", "is_whole", "is_list", "is_row", "is_bud_word", "is_stretch", "need_stretches", "Row", "extent_of", "row_of"] : List Str) ++ (["as_row", "cut_front", "common_of", "_law_begin", "_law_draw", "_law_pick", "_law_ten", "_law_is", "_law_stretches", "_law_spelled", "_law_cut", "_law_beside", "_law_refused", "_law_parts_right", "_law_pair_right", "_law_wrong_right"] : List Str)
theorem run (w : World) : HandSHeadRun.RunEq RW (PySem.W.view RW.prog [40]) hk ob 20000 loose w := by
  intro os
  kernel_rfl
end R4
set_option Elab.async false
set_option linter.all false
set_option maxRecDepth 100000
set_option maxHeartbeats 0
namespace R4
open PySem L2 PySem.GW LamX
theorem ptop : (PW.main.scope.names.lookup (Str.ofString "super")).isSome = false := by decide +kernel
section
variable {K : PySem.W.Frag}
theorem fun_at {x qual : Str} {st : Stmt} {f : Addr} (h : ∃ oc od osl kV doc pm an cdv ct, K.lookup f = some ⟨oc, od, .func (PySem.W.fnOf x qual (defArgs st) (defBody st) (defScope st) .none kV doc pm an cdv ct), osl⟩ ∧ PySem.W.codeIn K cdv qual = true) (kp : PySem.W.keepIn K (.ref f) = true) : Fun K x qual st f (fdOf K f) := by
  obtain ⟨oc, od, osl, kV, doc, pm, an, cdv, ct, lk, cd⟩ := h
  have e : fdOf K f = PySem.W.fnOf x qual (defArgs st) (defBody st) (defScope st) .none kV doc pm an cdv ct := by
    unfold fdOf
    rw [lk]
  rw [e]
  exact fun_mk lk cd kp
theorem tup0_ok {a : Addr} (h : tup0B K a = true) (H : Hp) : SqT K H a [] := by
  unfold tup0B at h
  cases hl : K.lookup a with
  | none => rw [hl] at h; cases h
  | some o =>
    rw [hl] at h
    simp only [Bool.and_eq_true] at h
    obtain ⟨h1, h2⟩ := h
    obtain ⟨cls, dd, data, sl⟩ := o
    cases data with
    | seq its n =>
      have e : its = #[] := Array.isEmpty_iff.mp h2
      subst e
      exact .inr ⟨_, #[], n, hl, of_decide_eq_true h1, rfl, Nat.zero_le _, .nil⟩
    | _ => cases h2
theorem funD_at {x qual : Str} {params : Arguments} {body : List Stmt} {scope : Scope} {dvs : List V} {kws : List (Str × V)} {f : Addr} (h : ∃ fd, FunD K x qual params body scope dvs kws f fd) : FunD K x qual params body scope dvs kws f (fdOf K f) := by
  obtain ⟨fd, F⟩ := h
  obtain ⟨oc, od, dV, kV, doc, pm, an, cdv, ct, osl, e, lk, r⟩ := F.ex
  have e2 : fdOf K f = fd := by
    unfold fdOf
    rw [lk]
  rw [e2]
  exact F
end
theorem top_of {K : PySem.W.Frag} {h : Heap} {mg : Str → Option Value} (X : K.In h) (G : h.Ns mainGlobals mg) (c : Says3 fb dfs xsL ysL fws tfs h K) : Top K mg ∧ tbA K (fa K "_law_parts_right") ≠ tbA K (fa K "_law_wrong_right") := by
  have a := c.all
  unfold fb at a
  simp only [Bool.and_eq_true] at a
  obtain ⟨aF, aN, aW, aR, aO, aX, aA, aE, aT, a0⟩ := a
  refine ⟨?_, of_decide_eq_true aT⟩
  have gl : ∀ {x : Str}, gB K x = true → mg x = some (.ref (He.ga K x)) ∧ PySem.W.keepIn K (.ref (He.ga K x)) = true := fun {x} q => by
    unfold gB at q
    simp only [Bool.and_eq_true] at q
    exact ⟨PySem.W.mg_of X G (He.eqO_ok q.1), q.2⟩
  have fr : ∀ (i : Nat) {x : Str}, frees[i]? = some x → mg x = none := fun i {x} q => PySem.W.mg_none_of X G (He.eqO_ok (all_at aN i q))
  have opq := He.eqO_ok aO
  have fa_ : ∀ (i : Nat) {f : He.Fa}, fas[i]? = some f → f.ok K = true := fun i {f} q => all_at aA i q
  unfold exs at aE
  simp only [Bool.and_eq_true] at aE
  obtain ⟨e0, e1, e2, e3, e4, e5, e6, e7, e8, e9, e10, e11, e12, e13, e14, e15, e16, e17, e18, e19, e20, e21, e22, e23, e24, e25, e26⟩ := aE
  have hm_runs := He.meth_ok (fa_ 8 (f := .meth "Row" "runs") rfl)
  have hm_total := He.meth_ok (fa_ 9 (f := .meth "Row" "total") rfl)
  have hm_bud := He.meth_ok (fa_ 10 (f := .meth "Row" "bud") rfl)
  have hm_beginning := He.meth_ok (fa_ 11 (f := .meth "Row" "beginning") rfl)
  have hm_behind := He.meth_ok (fa_ 12 (f := .meth "Row" "behind") rfl)
  have hm_before := He.meth_ok (fa_ 13 (f := .meth "Row" "before") rfl)
  have hm_common := He.meth_ok (fa_ 14 (f := .meth "Row" "common") rfl)
  have hm___add__ := He.meth_ok (fa_ 15 (f := .meth "Row" "__add__") rfl)
  have hm___eq__ := He.meth_ok (fa_ 16 (f := .meth "Row" "__eq__") rfl)
  have hm_plain := He.meth_ok (fa_ 17 (f := .meth "Row" "plain") rfl)
  have F_is_integer := fun_at (st := s_is_integer) (c.def_ 0 (d := ⟨("is_integer", none), "is_integer", "is_integer", defArgs s_is_integer, defBody s_is_integer, defScope s_is_integer⟩) rfl) ((gl (all_at aF 0 (x := "is_integer") rfl)).2)
  have F_is_whole := fun_at (st := s_is_whole) (c.def_ 1 (d := ⟨("is_whole", none), "is_whole", "is_whole", defArgs s_is_whole, defBody s_is_whole, defScope s_is_whole⟩) rfl) ((gl (all_at aF 1 (x := "is_whole") rfl)).2)
  have F_is_list := fun_at (st := s_is_list) (c.def_ 2 (d := ⟨("is_list", none), "is_list", "is_list", defArgs s_is_list, defBody s_is_list, defScope s_is_list⟩) rfl) ((gl (all_at aF 2 (x := "is_list") rfl)).2)
  have F_is_row := fun_at (st := s_is_row) (c.def_ 3 (d := ⟨("is_row", none), "is_row", "is_row", defArgs s_is_row, defBody s_is_row, defScope s_is_row⟩) rfl) ((gl (all_at aF 3 (x := "is_row") rfl)).2)
  have F_is_bud_word := fun_at (st := s_is_bud_word) (c.def_ 4 (d := ⟨("is_bud_word", none), "is_bud_word", "is_bud_word", defArgs s_is_bud_word, defBody s_is_bud_word, defScope s_is_bud_word⟩) rfl) ((gl (all_at aF 4 (x := "is_bud_word") rfl)).2)
  have F_is_stretch := fun_at (st := s_is_stretch) (c.def_ 5 (d := ⟨("is_stretch", none), "is_stretch", "is_stretch", defArgs s_is_stretch, defBody s_is_stretch, defScope s_is_stretch⟩) rfl) ((gl (all_at aF 5 (x := "is_stretch") rfl)).2)
  have F_need_stretches := fun_at (st := s_need_stretches) (c.def_ 6 (d := ⟨("need_stretches", none), "need_stretches", "need_stretches", defArgs s_need_stretches, defBody s_need_stretches, defScope s_need_stretches⟩) rfl) ((gl (all_at aF 6 (x := "need_stretches") rfl)).2)
  have F_extent_of := fun_at (st := s_extent_of) (c.def_ 7 (d := ⟨("extent_of", none), "extent_of", "extent_of", defArgs s_extent_of, defBody s_extent_of, defScope s_extent_of⟩) rfl) ((gl (all_at aF 7 (x := "extent_of") rfl)).2)
  have F_row_of := fun_at (st := s_row_of) (c.def_ 8 (d := ⟨("row_of", none), "row_of", "row_of", defArgs s_row_of, defBody s_row_of, defScope s_row_of⟩) rfl) ((gl (all_at aF 8 (x := "row_of") rfl)).2)
  have F_as_row := fun_at (st := s_as_row) (c.def_ 9 (d := ⟨("as_row", none), "as_row", "as_row", defArgs s_as_row, defBody s_as_row, defScope s_as_row⟩) rfl) ((gl (all_at aF 9 (x := "as_row") rfl)).2)
  have F_cut_front := fun_at (st := s_cut_front) (c.def_ 10 (d := ⟨("cut_front", none), "cut_front", "cut_front", defArgs s_cut_front, defBody s_cut_front, defScope s_cut_front⟩) rfl) ((gl (all_at aF 10 (x := "cut_front") rfl)).2)
  have F_common_of := fun_at (st := s_common_of) (c.def_ 11 (d := ⟨("common_of", none), "common_of", "common_of", defArgs s_common_of, defBody s_common_of, defScope s_common_of⟩) rfl) ((gl (all_at aF 11 (x := "common_of") rfl)).2)
  have F__law_begin := fun_at (st := s__law_begin) (c.def_ 12 (d := ⟨("_law_begin", none), "_law_begin", "_law_begin", defArgs s__law_begin, defBody s__law_begin, defScope s__law_begin⟩) rfl) ((gl (all_at aF 12 (x := "_law_begin") rfl)).2)
  have F__law_draw := fun_at (st := s__law_draw) (c.def_ 13 (d := ⟨("_law_draw", none), "_law_draw", "_law_draw", defArgs s__law_draw, defBody s__law_draw, defScope s__law_draw⟩) rfl) ((gl (all_at aF 13 (x := "_law_draw") rfl)).2)
  have F__law_pick := fun_at (st := s__law_pick) (c.def_ 14 (d := ⟨("_law_pick", none), "_law_pick", "_law_pick", defArgs s__law_pick, defBody s__law_pick, defScope s__law_pick⟩) rfl) ((gl (all_at aF 14 (x := "_law_pick") rfl)).2)
  have F__law_ten := fun_at (st := s__law_ten) (c.def_ 15 (d := ⟨("_law_ten", none), "_law_ten", "_law_ten", defArgs s__law_ten, defBody s__law_ten, defScope s__law_ten⟩) rfl) ((gl (all_at aF 15 (x := "_law_ten") rfl)).2)
  have F__law_is := fun_at (st := s__law_is) (c.def_ 16 (d := ⟨("_law_is", none), "_law_is", "_law_is", defArgs s__law_is, defBody s__law_is, defScope s__law_is⟩) rfl) ((gl (all_at aF 16 (x := "_law_is") rfl)).2)
  have F__law_stretches := fun_at (st := s__law_stretches) (c.def_ 17 (d := ⟨("_law_stretches", none), "_law_stretches", "_law_stretches", defArgs s__law_stretches, defBody s__law_stretches, defScope s__law_stretches⟩) rfl) ((gl (all_at aF 17 (x := "_law_stretches") rfl)).2)
  have F__law_spelled := fun_at (st := s__law_spelled) (c.def_ 18 (d := ⟨("_law_spelled", none), "_law_spelled", "_law_spelled", defArgs s__law_spelled, defBody s__law_spelled, defScope s__law_spelled⟩) rfl) ((gl (all_at aF 18 (x := "_law_spelled") rfl)).2)
  have F__law_cut := fun_at (st := s__law_cut) (c.def_ 19 (d := ⟨("_law_cut", none), "_law_cut", "_law_cut", defArgs s__law_cut, defBody s__law_cut, defScope s__law_cut⟩) rfl) ((gl (all_at aF 19 (x := "_law_cut") rfl)).2)
  have F__law_beside := fun_at (st := s__law_beside) (c.def_ 20 (d := ⟨("_law_beside", none), "_law_beside", "_law_beside", defArgs s__law_beside, defBody s__law_beside, defScope s__law_beside⟩) rfl) ((gl (all_at aF 20 (x := "_law_beside") rfl)).2)
  have F__law_refused := fun_at (st := s__law_refused) (c.def_ 21 (d := ⟨("_law_refused", none), "_law_refused", "_law_refused", defArgs s__law_refused, defBody s__law_refused, defScope s__law_refused⟩) rfl) ((gl (all_at aF 21 (x := "_law_refused") rfl)).2)
  have F__law_parts_right := fun_at (st := s__law_parts_right) (c.def_ 22 (d := ⟨("_law_parts_right", none), "_law_parts_right", "_law_parts_right", defArgs s__law_parts_right, defBody s__law_parts_right, defScope s__law_parts_right⟩) rfl) ((gl (all_at aF 22 (x := "_law_parts_right") rfl)).2)
  have F__law_pair_right := fun_at (st := s__law_pair_right) (c.def_ 23 (d := ⟨("_law_pair_right", none), "_law_pair_right", "_law_pair_right", defArgs s__law_pair_right, defBody s__law_pair_right, defScope s__law_pair_right⟩) rfl) ((gl (all_at aF 23 (x := "_law_pair_right") rfl)).2)
  have F__law_wrong_right := fun_at (st := s__law_wrong_right) (c.def_ 24 (d := ⟨("_law_wrong_right", none), "_law_wrong_right", "_law_wrong_right", defArgs s__law_wrong_right, defBody s__law_wrong_right, defScope s__law_wrong_right⟩) rfl) ((gl (all_at aF 24 (x := "_law_wrong_right") rfl)).2)
  have F_law := fun_at (st := s_law) (c.def_ 25 (d := ⟨("law", none), "law", "law", defArgs s_law, defBody s_law, defScope s_law⟩) rfl) ((gl (all_at aF 25 (x := "law") rfl)).2)
  have F_Row_runs := fun_at (st := s_Row_runs) (c.def_ 26 (d := ⟨("Row", some "runs"), "runs", "Row.runs", defArgs s_Row_runs, defBody s_Row_runs, defScope s_Row_runs⟩) rfl) (hm_runs.kp)
  have F_Row_total := fun_at (st := s_Row_total) (c.def_ 27 (d := ⟨("Row", some "total"), "total", "Row.total", defArgs s_Row_total, defBody s_Row_total, defScope s_Row_total⟩) rfl) (hm_total.kp)
  have F_Row_bud := fun_at (st := s_Row_bud) (c.def_ 28 (d := ⟨("Row", some "bud"), "bud", "Row.bud", defArgs s_Row_bud, defBody s_Row_bud, defScope s_Row_bud⟩) rfl) (hm_bud.kp)
  have F_Row_beginning := fun_at (st := s_Row_beginning) (c.def_ 29 (d := ⟨("Row", some "beginning"), "beginning", "Row.beginning", defArgs s_Row_beginning, defBody s_Row_beginning, defScope s_Row_beginning⟩) rfl) (hm_beginning.kp)
  have F_Row_behind := fun_at (st := s_Row_behind) (c.def_ 30 (d := ⟨("Row", some "behind"), "behind", "Row.behind", defArgs s_Row_behind, defBody s_Row_behind, defScope s_Row_behind⟩) rfl) (hm_behind.kp)
  have F_Row_before := fun_at (st := s_Row_before) (c.def_ 31 (d := ⟨("Row", some "before"), "before", "Row.before", defArgs s_Row_before, defBody s_Row_before, defScope s_Row_before⟩) rfl) (hm_before.kp)
  have F_Row_common := fun_at (st := s_Row_common) (c.def_ 32 (d := ⟨("Row", some "common"), "common", "Row.common", defArgs s_Row_common, defBody s_Row_common, defScope s_Row_common⟩) rfl) (hm_common.kp)
  have F_Row___add__ := fun_at (st := s_Row___add__) (c.def_ 33 (d := ⟨("Row", some "__add__"), "__add__", "Row.__add__", defArgs s_Row___add__, defBody s_Row___add__, defScope s_Row___add__⟩) rfl) (hm___add__.kp)
  have F_Row___eq__ := fun_at (st := s_Row___eq__) (c.def_ 34 (d := ⟨("Row", some "__eq__"), "__eq__", "Row.__eq__", defArgs s_Row___eq__, defBody s_Row___eq__, defScope s_Row___eq__⟩) rfl) (hm___eq__.kp)
  exact {
    z_isinstance := fr 0 rfl,
    z_int := fr 1 rfl,
    z_bool := fr 2 rfl,
    z_list := fr 3 rfl,
    z_tuple := fr 4 rfl,
    z_len := fr 5 rfl,
    z_min := fr 6 rfl,
    z_max := fr 7 rfl,
    z_sum := fr 8 rfl,
    z_all := fr 9 rfl,
    z_range := fr 10 rfl,
    z_enumerate := fr 11 rfl,
    z_super := fr 12 rfl,
    z_str := fr 13 rfl,
    z_dict := fr 14 rfl,
    z_repr := fr 15 rfl,
    c_MOST_BUDS := He.int_ok X G (fa_ 0 rfl),
    c_MOST_PLAIN := He.int_ok X G (fa_ 1 rfl),
    c_MOST_STRETCHES := He.int_ok X G (fa_ 2 rfl),
    c_MOST_WORD := He.int_ok X G (fa_ 3 rfl),
    c_MOST_TIMES := He.int_ok X G (fa_ 4 rfl),
    F_is_integer := F_is_integer,
    g_is_integer := (gl (all_at aF 0 (x := "is_integer") rfl)).1,
    b_is_integer := F_is_integer.binds (ps := ["value"]) fun _ _ _ _ _ _ us hl => match us, hl with | [_], _ => rfl,
    F_is_whole := F_is_whole,
    g_is_whole := (gl (all_at aF 1 (x := "is_whole") rfl)).1,
    b_is_whole := F_is_whole.binds (ps := ["value", "least"]) fun _ _ _ _ _ _ us hl => match us, hl with | [_, _], _ => rfl,
    F_is_list := F_is_list,
    g_is_list := (gl (all_at aF 2 (x := "is_list") rfl)).1,
    b_is_list := F_is_list.binds (ps := ["value"]) fun _ _ _ _ _ _ us hl => match us, hl with | [_], _ => rfl,
    F_is_row := F_is_row,
    g_is_row := (gl (all_at aF 3 (x := "is_row") rfl)).1,
    b_is_row := F_is_row.binds (ps := ["value"]) fun _ _ _ _ _ _ us hl => match us, hl with | [_], _ => rfl,
    F_is_bud_word := F_is_bud_word,
    g_is_bud_word := (gl (all_at aF 4 (x := "is_bud_word") rfl)).1,
    b_is_bud_word := F_is_bud_word.binds (ps := ["value"]) fun _ _ _ _ _ _ us hl => match us, hl with | [_], _ => rfl,
    F_is_stretch := F_is_stretch,
    g_is_stretch := (gl (all_at aF 5 (x := "is_stretch") rfl)).1,
    b_is_stretch := F_is_stretch.binds (ps := ["value"]) fun _ _ _ _ _ _ us hl => match us, hl with | [_], _ => rfl,
    F_need_stretches := F_need_stretches,
    g_need_stretches := (gl (all_at aF 6 (x := "need_stretches") rfl)).1,
    b_need_stretches := F_need_stretches.binds (ps := ["value"]) fun _ _ _ _ _ _ us hl => match us, hl with | [_], _ => rfl,
    F_extent_of := F_extent_of,
    g_extent_of := (gl (all_at aF 7 (x := "extent_of") rfl)).1,
    b_extent_of := F_extent_of.binds (ps := ["runs"]) fun _ _ _ _ _ _ us hl => match us, hl with | [_], _ => rfl,
    F_row_of := F_row_of,
    g_row_of := (gl (all_at aF 8 (x := "row_of") rfl)).1,
    b_row_of := F_row_of.binds (ps := ["runs"]) fun _ _ _ _ _ _ us hl => match us, hl with | [_], _ => rfl,
    F_as_row := F_as_row,
    g_as_row := (gl (all_at aF 9 (x := "as_row") rfl)).1,
    b_as_row := F_as_row.binds (ps := ["value"]) fun _ _ _ _ _ _ us hl => match us, hl with | [_], _ => rfl,
    F_cut_front := F_cut_front,
    g_cut_front := (gl (all_at aF 10 (x := "cut_front") rfl)).1,
    b_cut_front := F_cut_front.binds (ps := ["runs", "many"]) fun _ _ _ _ _ _ us hl => match us, hl with | [_, _], _ => rfl,
    F_common_of := F_common_of,
    g_common_of := (gl (all_at aF 11 (x := "common_of") rfl)).1,
    b_common_of := F_common_of.binds (ps := ["one", "other"]) fun _ _ _ _ _ _ us hl => match us, hl with | [_, _], _ => rfl,
    F__law_begin := F__law_begin,
    g__law_begin := (gl (all_at aF 12 (x := "_law_begin") rfl)).1,
    b__law_begin := F__law_begin.binds (ps := ["_law_script"]) fun _ _ _ _ _ _ us hl => match us, hl with | [_], _ => rfl,
    F__law_draw := F__law_draw,
    g__law_draw := (gl (all_at aF 13 (x := "_law_draw") rfl)).1,
    b__law_draw := F__law_draw.binds (ps := ["_law_tape", "_law_limit"]) fun _ _ _ _ _ _ us hl => match us, hl with | [_, _], _ => rfl,
    F__law_pick := F__law_pick,
    g__law_pick := (gl (all_at aF 14 (x := "_law_pick") rfl)).1,
    b__law_pick := F__law_pick.binds (ps := ["_law_tape", "_law_some"]) fun _ _ _ _ _ _ us hl => match us, hl with | [_, _], _ => rfl,
    F__law_ten := F__law_ten,
    g__law_ten := (gl (all_at aF 15 (x := "_law_ten") rfl)).1,
    b__law_ten := F__law_ten.binds (ps := ["_law_figures"]) fun _ _ _ _ _ _ us hl => match us, hl with | [_], _ => rfl,
    F__law_is := F__law_is,
    g__law_is := (gl (all_at aF 16 (x := "_law_is") rfl)).1,
    b__law_is := F__law_is.binds (ps := ["_law_value", "_law_truth"]) fun _ _ _ _ _ _ us hl => match us, hl with | [_, _], _ => rfl,
    F__law_stretches := F__law_stretches,
    g__law_stretches := (gl (all_at aF 17 (x := "_law_stretches") rfl)).1,
    b__law_stretches := F__law_stretches.binds (ps := ["_law_tape"]) fun _ _ _ _ _ _ us hl => match us, hl with | [_], _ => rfl,
    F__law_spelled := F__law_spelled,
    g__law_spelled := (gl (all_at aF 18 (x := "_law_spelled") rfl)).1,
    b__law_spelled := F__law_spelled.binds (ps := ["_law_stretches_here"]) fun _ _ _ _ _ _ us hl => match us, hl with | [_], _ => rfl,
    F__law_cut := F__law_cut,
    g__law_cut := (gl (all_at aF 19 (x := "_law_cut") rfl)).1,
    b__law_cut := F__law_cut.binds (ps := ["_law_tape", "_law_flat"]) fun _ _ _ _ _ _ us hl => match us, hl with | [_, _], _ => rfl,
    F__law_beside := F__law_beside,
    g__law_beside := (gl (all_at aF 20 (x := "_law_beside") rfl)).1,
    b__law_beside := F__law_beside.binds (ps := ["_law_tape", "_law_flat"]) fun _ _ _ _ _ _ us hl => match us, hl with | [_, _], _ => rfl,
    F__law_refused := F__law_refused,
    g__law_refused := (gl (all_at aF 21 (x := "_law_refused") rfl)).1,
    b__law_refused := F__law_refused.binds (ps := ["_law_call"]) fun _ _ _ _ _ _ us hl => match us, hl with | [_], _ => rfl,
    F__law_parts_right := F__law_parts_right,
    g__law_parts_right := (gl (all_at aF 22 (x := "_law_parts_right") rfl)).1,
    b__law_parts_right := F__law_parts_right.binds (ps := ["_law_tape", "_law_row", "_law_flat"]) fun _ _ _ _ _ _ us hl => match us, hl with | [_, _, _], _ => rfl,
    F__law_pair_right := F__law_pair_right,
    g__law_pair_right := (gl (all_at aF 23 (x := "_law_pair_right") rfl)).1,
    b__law_pair_right := F__law_pair_right.binds (ps := ["_law_tape", "_law_row", "_law_flat", "_law_other"]) fun _ _ _ _ _ _ us hl => match us, hl with | [_, _, _, _], _ => rfl,
    F__law_wrong_right := F__law_wrong_right,
    g__law_wrong_right := (gl (all_at aF 24 (x := "_law_wrong_right") rfl)).1,
    b__law_wrong_right := F__law_wrong_right.binds (ps := ["_law_tape", "_law_stretches_here"]) fun _ _ _ _ _ _ us hl => match us, hl with | [_, _], _ => rfl,
    F_law := F_law,
    g_law := (gl (all_at aF 25 (x := "law") rfl)).1,
    b_law := F_law.binds (ps := ["_law_script"]) fun _ _ _ _ _ _ us hl => match us, hl with | [_], _ => rfl,
    F_Row_runs := F_Row_runs,
    b_Row_runs := F_Row_runs.binds (ps := ["self"]) fun _ _ _ _ _ _ us hl => match us, hl with | [_], _ => rfl,
    m_runs := hm_runs,
    F_Row_total := F_Row_total,
    b_Row_total := F_Row_total.binds (ps := ["self"]) fun _ _ _ _ _ _ us hl => match us, hl with | [_], _ => rfl,
    m_total := hm_total,
    F_Row_bud := F_Row_bud,
    b_Row_bud := F_Row_bud.binds (ps := ["self", "index"]) fun _ _ _ _ _ _ us hl => match us, hl with | [_, _], _ => rfl,
    m_bud := hm_bud,
    F_Row_beginning := F_Row_beginning,
    b_Row_beginning := F_Row_beginning.binds (ps := ["self", "many"]) fun _ _ _ _ _ _ us hl => match us, hl with | [_, _], _ => rfl,
    m_beginning := hm_beginning,
    F_Row_behind := F_Row_behind,
    b_Row_behind := F_Row_behind.binds (ps := ["self", "many"]) fun _ _ _ _ _ _ us hl => match us, hl with | [_, _], _ => rfl,
    m_behind := hm_behind,
    F_Row_before := F_Row_before,
    b_Row_before := F_Row_before.binds (ps := ["self", "other"]) fun _ _ _ _ _ _ us hl => match us, hl with | [_, _], _ => rfl,
    m_before := hm_before,
    F_Row_common := F_Row_common,
    b_Row_common := F_Row_common.binds (ps := ["self", "other"]) fun _ _ _ _ _ _ us hl => match us, hl with | [_, _], _ => rfl,
    m_common := hm_common,
    F_Row___add__ := F_Row___add__,
    b_Row___add__ := F_Row___add__.binds (ps := ["self", "other"]) fun _ _ _ _ _ _ us hl => match us, hl with | [_, _], _ => rfl,
    m___add__ := hm___add__,
    F_Row___eq__ := F_Row___eq__,
    b_Row___eq__ := F_Row___eq__.binds (ps := ["self", "other"]) fun _ _ _ _ _ _ us hl => match us, hl with | [_, _], _ => rfl,
    m___eq__ := hm___eq__,
    g_Row := (gl aR).1,
    cl := He.cls_ok (fa_ 5 rfl),
    nS := He.noat_ok (fa_ 6 rfl),
    mkR := He.mkr_ok (fa_ 7 rfl),
    D_init := ⟨_, funD_at (c.defD 0 rfl)⟩,
    D_init0 := funD_at (c.defD 0 rfl),
    D_plain := funD_at (c.defD 1 rfl),
    g_WebError := (gl aW).1,
    e0_nil := tup0_ok a0,
    m_plain := hm_plain,
    i_cls := He.eqO_ok e0,
    i_get := He.eqO_ok e1,
    i_tk := of_decide_eq_true e2,
    i_mro := of_decide_eq_true e3,
    k_row := of_decide_eq_true e4,
    k_tuple := of_decide_eq_true e5,
    k_list := of_decide_eq_true e6,
    k_int := of_decide_eq_true e7,
    k_str := of_decide_eq_true e8,
    k_bool := of_decide_eq_true e9,
    k_NoneType := of_decide_eq_true e10,
    k_float := of_decide_eq_true e11,
    k_dict := of_decide_eq_true e12,
    s_first := beq_iff_eq.mp e13,
    f_ne := He.eqO_ok e14,
    o_sub := of_decide_eq_true e15,
    x_BadRow_BadRow := of_decide_eq_true e16,
    x_OutsideRow_BadRow := of_decide_eq_true e17,
    x_OutsideRow_OutsideRow := of_decide_eq_true e18,
    x_TooMany_BadRow := of_decide_eq_true e19,
    x_TooMany_OutsideRow := of_decide_eq_true e20,
    x_TooMany_TooMany := of_decide_eq_true e21,
    q_BadRow_OutsideRow := of_decide_eq_true e22,
    q_BadRow_TooMany := of_decide_eq_true e23,
    q_OutsideRow_TooMany := of_decide_eq_true e24,
    t_sub1 := of_decide_eq_true e25,
    t_sub2 := of_decide_eq_true e26,
    e_NoPiece := xB_ok (P := PW) (l := fl_NoPiece) X G (all_at aX 0 (x := ("NoPiece", ["row"])) rfl) (c.ini 0 rfl rfl) ini_NoPiece (fr 12 rfl) opq ptop,
    e_TooMany := xB_ok (P := PW) (l := fl_TooMany) X G (all_at aX 1 (x := ("TooMany", ["most"])) rfl) (c.ini 1 rfl rfl) ini_TooMany (fr 12 rfl) opq ptop,
    e_BadRow := xB_ok (P := PW) (l := fl_BadRow) X G (all_at aX 2 (x := ("BadRow", ["index"])) rfl) (c.ini 2 rfl rfl) ini_BadRow (fr 12 rfl) opq ptop,
    e_OutsideRow := xB_ok (P := PW) (l := fl_OutsideRow) X G (all_at aX 3 (x := ("OutsideRow", ["number"])) rfl) (c.ini 3 rfl rfl) ini_OutsideRow (fr 12 rfl) opq ptop }
theorem bl_law {K : PySem.W.Frag} {mg : Str → Option Value} (T : Top K mg) : ∀ (s : Shared) (u : Value), BindsTo s (fdOf K (fa K "law")) ⟨[u], []⟩ [("_law_script", u)] := fun s u => by
  obtain ⟨oc, od, kV, doc, pm, an, cdv, ct, osl, e, lk, hcd⟩ := T.F_law.ex
  rw [e]
  exact .of_eq rfl
end R4
open PySem PySem.W PySem.Calls PyProof.Rows
set_option maxRecDepth 100000 in
set_option maxHeartbeats 0 in
theorem PySem.Challenge.cw_growwebs_k23_rows_told_in_two_ways_holds : PySem.Challenge.rw_growwebs_k23_rows_told_in_two_ways.Holds := by
  w_on; o_law
  refine HandSHeadRun.head_any (r := OpenLaw.row PySem.Challenge.rw_growwebs_k23_rows_told_in_two_ways) (q := view (OpenLaw.row PySem.Challenge.rw_growwebs_k23_rows_told_in_two_ways).prog [40]) (H := R4.hk) (ob := R4.ob) (M := 20000) (loose := R4.loose) (d := HandSHeadRun.topDef (OpenLaw.row PySem.Challenge.rw_growwebs_k23_rows_told_in_two_ways).prog 40) (kwd := []) R4.ob_eq
    (by kernel_rfl) (fun s => by kernel_rfl) R4.run (by kernel_rfl) (by kernel_rfl) (by kernel_rfl) (by rfl) (by first | assumption | decide +kernel) (by decide +kernel) ⟨rfl, rfl, rfl, rfl, rfl, by decide +kernel⟩ ?hw ?hc
  case hw => w_witness2
  case hc =>
    refine LamX.walk_ofTsG (l := PySem.Challenge.rw_growwebs_k23_rows_told_in_two_ways) (n := 63) (k := 14) (x := "_law_script") (CX := fun _ => L2.CX0) rfl (by decide) (by kernel_rfl) ⟨rfl, by decide, by decide⟩ ?F (fun _ _ _ _ _ z => z)
    intro w mg fa h Y G hmg0
    obtain ⟨K, KX, c⟩ := Y
    have hmg : mg ("law" : PySem.Str) = some (.ref fa) := by
      have e : (HandSHeadRun.topDef (OpenLaw.row PySem.Challenge.rw_growwebs_k23_rows_told_in_two_ways).prog 40).name = ("law" : PySem.Str) := by kernel_rfl
      rw [← e]
      exact hmg0
    obtain ⟨T, hne⟩ := R4.top_of KX G c
    have ef := hmg.symm.trans T.g_law
    cases ef
    refine ⟨K, KX, R4.fdOf K (R4.fa K "law"), R4.tfs.map (He.cT K), R4.spLaw K, fun p hp => ?_, fun p hp => ?_, fun p hp => ?_, R4.bl_law T, fun H a ns hl hH hS => ?_, fun base KB GB TB => ?_⟩
    · obtain ⟨d, hd, rfl⟩ := List.mem_map.mp hp
      exact c.empty d hd
    · obtain ⟨d, hd, rfl⟩ := List.mem_map.mp hp
      exact c.out d hd
    · obtain ⟨d, hd, rfl⟩ := List.mem_map.mp hp
      exact PySem.W.codeHd_of_K KX (c.hd d hd)
    · refine ⟨a, ns, rfl, hS, hl, fun p hp => ?_, fun _ => rfl⟩
      rcases List.mem_cons.mp hp with e | e
      · rw [e]
        exact LamX.TabS.nil (hH (He.cT K ("_law_parts_right", none)) List.mem_cons_self)
      · rw [List.mem_singleton.mp e]
        exact LamX.TabS.nil (hH (He.cT K ("_law_wrong_right", none)) (List.mem_cons_of_mem _ List.mem_cons_self))
    · exact R4.ok_law T ⟨TB (He.cT K ("_law_parts_right", none)) List.mem_cons_self, TB (He.cT K ("_law_wrong_right", none)) (List.mem_cons_of_mem _ List.mem_cons_self), hne⟩
