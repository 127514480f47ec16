import PyProof.Rows.All
import Wide.All
import OpenK.AllK
import Wide.FinOn
import KE.KExcSuper
import KE.KExcIs
import HandS.ForMost
import HandS.Exc
import HandS.ExcInit
import HandS.ExcValue
import HandS.IsInst
import HandS.Wide
import HandS.Zip
import HandS.Iter
import HandS.Comp
import PySem.Challenge.RW_withinlimits_k86_errors_told

set_option Elab.async false
set_option linter.all false
set_option maxRecDepth 100000
set_option maxHeartbeats 4000000
/-! An own exception class, called with keywords: its record is made, its own def is entered. -/
namespace K86
open PySem PySem.W PySem.Calls PyProof.Rows PySem.HandSPX
section
variable {M : Model} {A : Around} {E : Value → Shared → Prop} {h : Heap} {g : Array GenState} {d : Drawn} {t : Nat} {os : OsState}
variable {nm q : Str} {C N : Addr} {bs bm bmB : List Value} {hdct : Bool} {sn : List Str} {sub : List Value} {ab : Bool} {col : Option Bool} {dd : Option Addr} {k0 k1 k2 k3 k5 : Option Value} {B newId initId : String}

theorem newChk (FB : ExcBaseFacts B newId initId bmB) (same : ∀ X : String, bm.contains (.type X) = bmB.contains (.type X))
    {rest : List Value} {kw : List (Str × Value)} {Q : Unit → Shared → Prop}
    (hC : h.get? C = some (excClassObj nm q C N bs bm hdct sn sub ab col dd k0 k1 k2 k3 k5 newId)) (fin : Q () ⟨h, g, d, t, os⟩) :
    wpAny M A (checkBuiltinCall newId ⟨.ref C :: rest, kw⟩) Q E ⟨h, g, d, t, os⟩ := by
  have isB : (Value.ref C :: bm).contains (.type B) = true := by rw [List.contains_cons, same, FB.hasB, Bool.or_true]
  have star := FB.noStar
  simp only [checkBuiltinCall, FB.newKind, FB.newSplit, FB.newRow]
  repeat (first
    | refine wpAny_loadPart_at hC ?_
    | (refine wpAny_isSubtype_exc hC ?_; rw [isB])
    | refine wpAny_staticBase_exc hC ?_
    | refine wpAny_madeBy_exc hC ?_
    | simp only [bne_self_eq_false, Bool.false_eq_true, if_false]
    | wp_step)
  all_goals first | exact fin | skip
end
section
variable {M : Model} {A : Around} {E : Value → Shared → Prop} {h : Heap} {g : Array GenState} {d : Drawn} {t : Nat} {os : OsState}
variable {nm q : Str} {C N : Addr} {bs bm : List Value} {hdct : Bool} {sn : List Str} {sub : List Value} {ab : Bool} {col : Option Bool} {dd : Option Addr} {k0 k1 k2 k3 k5 : Option Value} {newId : String}
theorem typeChk {rest : List Value} {kw : List (Str × Value)} {Q : Unit → Shared → Prop}
    (hC : h.get? C = some (excClassObj nm q C N bs bm hdct sn sub ab col dd k0 k1 k2 k3 k5 newId)) (fin : Q () ⟨h, g, d, t, os⟩) :
    wpAny M A (checkBuiltinCall "type.__call__" ⟨.ref C :: rest, kw⟩) Q E ⟨h, g, d, t, os⟩ := by
  have subT := tc_sub
  have ty : (⟨h, g, d, t, os⟩ : Shared).TypeIs (.ref C) "type" := ⟨_, hC, rfl⟩
  simp only [checkBuiltinCall, tc_kind, tc_split]
  repeat (any_goals (first
    | assumption
    | with_reducible refine wpAny_loadPart_at hC ?_
    | with_reducible refine wpAny_onRaise ?_
    | with_reducible refine wpAny_map ?_
    | wp_step))
end
section
variable {prog : Program} {w : World} {A : Around} {E : Value → Shared → Prop} {R : Result → Shared → Prop} {h : Heap} {g : Array GenState} {d : Drawn} {t : Nat} {os : OsState}
variable {nm q : Str} {C N : Addr} {bs bm bmB : List Value} {hdct : Bool} {sn : List Str} {sub : List Value} {ab : Bool} {col : Option Bool} {dd : Option Addr} {k0 k1 k2 k3 k5 : Option Value} {B newId initId : String}

theorem newKw (FB : ExcBaseFacts B newId initId bmB) (same : ∀ X : String, bm.contains (.type X) = bmB.contains (.type X))
    {rest : List Value} {kw : List (Str × Value)}
    (hC : h.get? C = some (excClassObj nm q C N bs bm hdct sn sub ab col dd k0 k1 k2 k3 k5 newId))
    (fin : R (.ok (.ret (.ref (h.objs.size + 1)))) ⟨(h.push (kdv_tup rest)).push (excO C h.objs.size), g, d, t, os⟩) (few : rest.length ≤ sizeLine) :
    codeAny (model prog w) A (.builtin newId ⟨.ref C :: rest, kw⟩) R ⟨h, g, d, t, os⟩ := by
  have ends := FB.ends
  have isB : (Value.ref C :: bm).contains (.type B) = true := by rw [List.contains_cons, same, FB.hasB, Bool.or_true]
  have noA : (Value.ref C :: bm).contains (.type "AttributeError") = false := by rw [List.contains_cons, same, FB.noAttr]; rfl
  have noN : (Value.ref C :: bm).contains (.type "NameError") = false := by rw [List.contains_cons, same, FB.noName]; rfl
  refine PySem.codeAny_builtinAt FB.entry ?_
  unfold Builtin.«BaseException.__new__»
  refine PySem.wpAt_bind ?_
  show PySem.wpAt _ _ _ (stack >>= _) _ _ _
  refine PySem.wpAt_bind (PySem.wpAt_stack fun p below => PySem.wpAt_of_wpAny ?_)
  wp_walk
  refine PySem.wpAt_of_wpAny ?_
  rw [FB.owner]
  repeat (first
    | with_reducible refine wpAny_madeHere_exc FB.canon hC ?_
    | with_reducible refine wpAny_loadPart_at hC ?_
    | (with_reducible refine wpAny_isSubtype_exc hC ?_; first | rw [isB] | rw [noA] | rw [noN])
    | wp_step)
  show R _ _
  rw [Heap.size_push]
  exact fin

/-- type.__call__ upon the class, with keywords -/
theorem typeKw (FB : ExcBaseFacts B newId initId bmB) (same : ∀ X : String, bm.contains (.type X) = bmB.contains (.type X))
    {rest : List Value} {kw : List (Str × Value)} {fI : Addr} {Q : Fin → Shared → Prop}
    (hC : h.get? C = some (excClassObj nm q C N bs bm hdct sn sub ab col dd k0 k1 k2 k3 k5 newId))
    (hi : Looks (model prog w) h (typeLookup (.ref C) "__init__") (some (.ref fI)))
    (hb : ∀ self, Looks (model prog w) h (bindSpecial (.ref fI) self) (.ref fI, [self])) (few : rest.length ≤ sizeLine)
    (fin : codeAny (model prog w) A (.call (.ref fI) ⟨.ref (h.objs.size + 1) :: rest, kw⟩)
      (fun r s' => match r with | .ok (.ret v) => v = .none ∧ Q (.done (.ret (.ref (h.objs.size + 1)))) s' | .ok _ => False | .error e => E e s')
      ⟨(h.push (kdv_tup rest)).push (excO C h.objs.size), g, d, t, os⟩) :
    wpAny (model prog w) A (Builtin.«type.__call__» ⟨.ref C :: rest, kw⟩) Q E ⟨h, g, d, t, os⟩ := by
  repeat (first | with_reducible refine wpAny_loadPart_at hC ?_ | with_reducible refine wpAny_madeBy_exc hC ?_ | wp_step)
  refine codeAny_call_builtin_code (Code.quiet_builtin _ FB.quiet) (newChk FB same hC ?_)
  refine newKw FB same hC ?_ few
  show wpAny _ _ _ _ _ _
  have keep : ∀ b o, h.get? b = some o → ((h.push (kdv_tup rest)).push (excO C h.objs.size)).get? b = some o :=
    fun b o e => Heap.get?_push_of_some _ (Heap.get?_push_of_some _ e)
  have hC1 := keep _ _ hC
  have at1 : ((h.push (kdv_tup rest)).push (excO C h.objs.size)).get? (h.objs.size + 1) = some (excO C h.objs.size) := by heap_get
  have selfIn : (Value.ref C :: bm).contains (.ref C) = true := by simp
  have i1 := hi.keeps keep
  have b1 := (hb (.ref (h.objs.size + 1))).keeps keep
  unfold isInstance
  repeat (first
    | with_reducible refine wpAny_loadPart_at at1 ?_
    | (with_reducible refine wpAny_isSubtype_exc hC1 ?_; rw [selfIn])
    | wp_step)
  show wpAny _ _ (typeLookup (.ref C) _) _ _ _
  refine i1.at ?_
  refine wpAny_holding (wpAny_bind (b1.at ?_))
  refine wpAny_bind (wpAny_call (codeAny_mono fin fun r s' z => ?_))
  rcases r with e | (v | _ | _ | _) <;> first | exact z | exact z.elim | skip
  obtain ⟨rfl, z⟩ := z
  first
    | exact wpAny_pure (wpAny_pure z)
    | (wp_walk; exact z)

theorem callKw (FB : ExcBaseFacts B newId initId bmB) (same : ∀ X : String, bm.contains (.type X) = bmB.contains (.type X))
    {rest : List Value} {kw : List (Str × Value)} {fI : Addr}
    (hC : h.get? C = some (excClassObj nm q C N bs bm hdct sn sub ab col dd k0 k1 k2 k3 k5 newId))
    (hi : Looks (model prog w) h (typeLookup (.ref C) "__init__") (some (.ref fI)))
    (hb : ∀ self, Looks (model prog w) h (bindSpecial (.ref fI) self) (.ref fI, [self])) (few : rest.length ≤ sizeLine)
    (fin : codeAny (model prog w) (A.under (.builtin "type.__call__" ⟨.ref C :: rest, kw⟩)) (.call (.ref fI) ⟨.ref (h.objs.size + 1) :: rest, kw⟩) (InitBack (h.objs.size + 1) R)
      ⟨(h.push (kdv_tup rest)).push (excO C h.objs.size), g, d, t, os⟩) :
    codeAny (model prog w) A (.call (.ref C) ⟨rest, kw⟩) R ⟨h, g, d, t, os⟩ := by
  have f1 := tc_lookup
  have f2 := tc_bind (.ref C)
  have ty : (⟨h, g, d, t, os⟩ : Shared).TypeIs (.ref C) "type" := ⟨_, hC, rfl⟩
  refine codeAny_of_tree ?_
  show wpAny _ _ (callAny (.ref C) _) _ _ _
  repeat (any_goals (first | assumption | with_reducible refine wpAny_loadPart_at hC ?_ | wp_step))
  refine ⟨rfl, ?_⟩
  refine codeAny_call_builtin_at (Code.quiet_builtin _ (by decide +kernel)) entry_typeCall ?_
  refine typeChk hC (typeKw FB same hC hi hb few ?_)
  refine codeAny_mono fin fun r s' z => ?_
  rcases r with e | (v | _ | _ | _) <;> exact z
end
end K86

set_option Elab.async false
set_option linter.all false
set_option maxRecDepth 100000
set_option maxHeartbeats 4000000
/-! An __init__ of an own exception class that says super().__init__(e) and keeps one thing: walked at the heap. -/
namespace K86
open PySem PySem.W PySem.Calls PyProof.Rows PySem.HandSPX

/-- super().__init__(e); self.g = f -/
def twoRows (e : Expr) (f g : Str) (a1 a2 a3 a5 a6 b1 b2 b3 b4 : Pos) : List Stmt :=
  [.Expr (.Call (.Attribute (.Call (.Name "super" a1) [] [] a2) "__init__" a3) [e] [] a5) a6,
   .Assign [.Attribute (.Name "self" b1) g b2] (.Name f b3) b4]

/-- the def at fI, written in the class at D, as the top has left it -/
structure DefAt (prog : Program) (K : Frag) (fI D cda cc : Addr) (q : Str) (P : Arguments) (B : List Stmt) (S : Scope) (fd : FuncData) : Prop where
  lk : ∃ (oc : Value) (od : Option Addr) (osl : Array (Option Value)) (kV doc pm : Value) (an : Option Addr) (ct : Value),
    fd = ksFn "__init__" q P B S .none kV doc pm an (.ref cda) ct cc ∧ K.lookup fI = some ⟨oc, od, .func fd, osl⟩
  code : codeIn K (.ref cda) q = true
  file : ∃ ccl cdd vs ccs file tf, K.lookup cda = some ⟨ccl, cdd, .fields vs, ccs⟩ ∧ vs[2]? = some (.str file tf) ∧ ((prog.main.file : Str) == file) = true
  cell : ∃ cl cld csl, K.lookup cc = some ⟨cl, cld, .cell (some (.ref D)), csl⟩
  cls : ∃ cdD, clsIn K D = some cdD
/-- the def's own text -/
structure TextOk (P : Arguments) (S : Scope) (f : Str) : Prop where
  first : ∃ ar, (P.posonlyargs ++ P.args).head? = some ar ∧ ar.arg = "self"
  kind : S.kind = .function
  co : S.isCoroutine = false
  gen : S.isGenerator = false
  noCell : ∀ x ∈ S.names, x.2 ≠ .cell
  sup : S.names.lookup ("super" : Str) = some .globalImplicit
  own : S.names.lookup ("__class__" : Str) = some .free
  slf : S.names.lookup ("self" : Str) = some .local
  par : S.names.lookup f = some .local
  nodb : (f == ("__debug__" : Str)) = false
/-- what holds of the module -/
structure ModOk (prog : Program) (K : Frag) (mg : Str → Option Value) (base : Heap) : Prop where
  mod : L2.Mod K mg base
  sup : mg "super" = none
  top : (prog.main.scope.names.lookup ("super" : Str)).isSome = false
  opaq : nsIn K cStatics "thirdparty.any" = some none

section
variable {prog : Program} {w : World} {M : Model} {A : Around} {E : Value → Shared → Prop} {s : Shared} {K : Frag} {mg : Str → Option Value} {base : Heap}
  {fI D cda cc x C : Addr} {q : Str} {P : Arguments} {B : List Stmt} {S : Scope} {fd : FuncData} {f : Str}

/-- super() in such a def: a new object that knows the class D and the thing x -/
theorem superHere {L : Addr} {p0 p1 : Pos} {whole : Sem Value} {m : Str → Option Value} {ox : Obj} {Q : Value → Shared → Prop} (T : DefAt prog K fI D cda cc q P B S fd) (TX : TextOk P S f)
    (MO : ModOk prog K mg base) (kb : ∀ b o, base.get? b = some o → s.heap.get? b = some o) (hn : s.heap.Ns L m) (hv : m "self" = some (.ref x))
    (hx : s.heap.get? x = some ox) (hc : ox.cls = .ref C) (nc : ∀ c, ox.data ≠ .cls c) (sb : mroIn K C (.ref D) = some true)
    (fin : ∀ h', h'.get? s.heap.objs.size = some (ks_superObj D x C) → (∀ y o, s.heap.get? y = some o → h'.get? y = some o) → Q (.ref s.heap.objs.size) { s with heap := h' }) :
    PySem.wpAt (model prog w) A (.func B (ksEnv q S L fI (.ref cda) cc)) (attributeBase (.Call (.Name "super" p0) [] [] p1) "__init__" (ksEnv q S L fI (.ref cda) cc) whole) Q E s := by
  have X : K.In s.heap := MO.mod.kin.keeps kb
  obtain ⟨oc, od, osl, kV, doc, pm, an, ct, rfl, lk⟩ := T.lk
  obtain ⟨ccl, cdd, vs, ccs, file, tf, lc, l2, lf⟩ := T.file
  obtain ⟨cl, cld, csl, lcell⟩ := T.cell
  obtain ⟨cdD, hD⟩ := T.cls
  obtain ⟨ar, h1, h2⟩ := TX.first
  obtain ⟨mb, hmb, hbo⟩ := MO.mod.blt
  obtain ⟨hh, g, d, t, os⟩ := s
  obtain ⟨oD, hD1, hD2⟩ : ∃ oD, hh.get? D = some oD ∧ oD.data = .cls cdD := by
    unfold clsIn at hD
    split at hD
    · rename_i c d cd' sl ho
      cases hD
      exact ⟨_, X _ _ ho, rfl⟩
    · cases hD
  refine ks_wpAt_super_base (env := ksEnv q S L fI (.ref cda) cc) TX.sup TX.own (by decide) rfl (X _ _ lk) rfl h1 rfl (X _ _ lc) rfl l2 lf MO.top ?_
  refine ks_loadName_global TX.kind TX.sup (PySem.Calls.loadGlobal_builtin (env := ksEnv q S L fI (.ref cda) cc) (MO.mod.glob.keeps kb) MO.sup (hmb.keeps kb) ((hbo _ (by decide +kernel)).trans (show bootBuiltins "super" = some (.type "super") by decide +kernel)) ⟨rfl, ?_⟩)
  refine wpAny_loadName_free TX.kind TX.own rfl ⟨_, X _ _ lcell, rfl⟩ ?_
  rw [h2]
  refine wpAny_loadName_local TX.kind TX.slf hn hv ?_
  refine ks_wpAny_isType_cls hD1 hD2 ⟨rfl, ?_⟩
  refine ks_wpAny_call_super hD1 hD2 hx hc nc (looks_mroIn X sb) (fun h' e k => ?_)
  exact fin h' e k

/-- a local name of such a def -/
theorem ldK {L : Addr} {cdv : Value} {m : Str → Option Value} {y : Str} {pos : Pos} {v : Value} {Q : Value → Shared → Prop} (hk : S.kind = .function) (hl : S.names.lookup y = some .local)
    (hn : s.heap.Ns L m) (hv : m y = some v) (hq : Q v s) (hd : (y == ("__debug__" : Str)) = false) : wpAny M A (eval (.Name y pos) (ksEnv q S L fI cdv cc)) Q E s :=
  wpAny_Name (wpAny_loadName_local hk hl hn hv hq) hd
end
end K86

set_option Elab.async false
set_option linter.all false
set_option maxRecDepth 100000
set_option maxHeartbeats 4000000
namespace K86
open PySem PySem.W PySem.Calls PyProof.Rows PySem.HandSPX
/-- behind such a def: the exception's object, its new dict -/
structure Kept1 (h h' : Heap) (x C dx t1 : Addr) (mm : Str → Option Value) : Prop where
  keep : ∀ b o, b ≠ x → h.get? b = some o → h'.get? b = some o
  obj : h'.get? x = some { cls := .ref C, dict := some dx, data := .fields #[.ref t1, .none, .none, .none, .bool false, .none] }
  big : h.objs.size ≤ dx
  ne : dx ≠ x
  ns : h'.Ns1 dx mm
section
variable {prog : Program} {w : World} {M : Model} {A : Around} {E : Value → Shared → Prop} {h : Heap} {g : Array GenState} {d : Drawn} {t : Nat} {os : OsState} {K : Frag}
/-- the built-in __init__ bound to the exception, called -/
theorem callMw {u x C t0 : Addr} {rest : List Value} {Q : Value → Shared → Prop} (O : L2.OexC K C) (X : K.In h) (hx : h.get? x = some (excO C t0))
    (hu : h.get? u = some (kxs_mw "ValueError.__init__" x)) (few : rest.length ≤ sizeLine)
    (fin : ∀ h' t1, (∀ b o, b ≠ x → h.get? b = some o → h'.get? b = some o) → h'.get? x = some (excO C t1) → Q .none ⟨h', g, d, t, os⟩) :
    wpAny (model prog w) A (call (.ref u) rest) Q E ⟨h, g, d, t, os⟩ := by
  obtain ⟨nm, q, N, bs, bm, sn, sub, ab, col, dd, k0, k1, k2, k3, k5, hC, _⟩ := O.cls
  refine wpAny_call (codeAny_of_tree ?_)
  show wpAny _ A.in1 (callAny (.ref u) ⟨rest, []⟩) _ _ _
  simp only [callAny]
  refine wpAny_bind (wpAny_load hu ?_)
  simp only [kxs_mw, show (Value.type "method-wrapper" == Value.type "method" || Value.type "method-wrapper" == Value.type "builtin_function_or_method" || Value.type "method-wrapper" == Value.type "method-wrapper") = true by decide, if_true]
  refine KFB.if_so (by decide) ?_
  refine wpAny_bind (check_bound_init F.excBase_ValueError.toExcCallFacts (X _ _ hC) hx rfl ?_)
  refine wpAny_bind (wpAny_pure (wpAny_pure ?_))
  refine ⟨plainId_quiet F.excBase_ValueError.init.plain _, codeAny_builtin F.excBase_ValueError.initEntry ?_⟩
  rw [Around.under_plainId F.excBase_ValueError.init.plain _]
  exact exc_init_tree (cls := .ref C) (t0 := t0) (dv := none) (c2 := .none) (c3 := .none) (b4 := .bool false) hx few fun h' k e _ => fin h' h.objs.size k e
end
/-- a call of super().__init__ as the machine reads it, on one line -/
theorem heOf {env : Env} {e : PySem.Expr} {a1 a2 a3 a5 : Pos} (hl : (a3.endLine == a5.line) = true) (he : starEach [e] env = [(false, eval e env)]) :
    eval (.Call (.Attribute (.Call (.Name "super" a1) [] [] a2) "__init__" a3) [e] [] a5) env = (do
      let ov ← attributeBase (.Call (.Name "super" a1) [] [] a2) "__init__" env (eval (.Call (.Name "super" a1) [] [] a2) env)
      standAt a3.atName
      let (f, first) ← holding [ov] (getMethod ov "__init__" (do return (← importBound (.Call (.Name "super" a1) [] [] a2) env).getD true))
      callWith a5 f first (backTo a5 (starEach [e] env)) []) := by
  unfold eval
  refine bind_congr fun ov => bind_congr fun _ => ?_
  have hf : methodCallForm ([e].length + ([] : List Keyword).length) (backTo a5 (starEach [e] env)) (backToKw a5 (keywordEach [] env)) = true := by
    rw [he]; rfl
  unfold methodCall calleeOf methodCallPos
  simp only [hf, hl, if_true, Bool.not_true, Bool.false_or]
  refine bind_congr fun fx => ?_
  rw [pure_bind]
  rfl
/-- the scope of such a def -/
abbrev scOf (l : List (Str × NameKind)) : Scope := { kind := .function, names := l, isGenerator := false, isCoroutine := false, more := [] }
abbrev scA (f : Str) : Scope := scOf [(PySem.Str.ofString "self", .local), (f, .local), (PySem.Str.ofString "__class__", .free), (PySem.Str.ofString "super", .globalImplicit)]
section
variable {prog : Program} {w : World} {A : Around} {E : Value → Shared → Prop} {R : Result → Shared → Prop} {s : Shared} {K : Frag} {mg : Str → Option Value} {base : Heap}
  {fI D cda cc x C t0 : Addr} {q : Str} {P : Arguments} {fd : FuncData} {f g : Str}

theorem initA {txt : Str} {j : Nat} {a1 a2 a3 a4 a5 a6 b1 b2 b3 b4 : Pos} {args : Args} {v : Value}
    (T : DefAt prog K fI D cda cc q P (twoRows (.Constant (.str txt) j a4) f g a1 a2 a3 a5 a6 b1 b2 b3 b4) (scA f) fd) (TX : TextOk P (scA f) f) (MO : ModOk prog K mg base) (O : L2.OexC K C)
    (kb : ∀ b o, base.get? b = some o → s.heap.get? b = some o) (hx : s.heap.get? x = some (excO C t0)) (hnx : K.lookup x = none) (sb : mroIn K C (.ref D) = some true)
    (sI : ks_superIn K C D "__init__" = some (some (.builtin "ValueError.__init__"))) (vB : subIn K (.ref C) (.type "ValueError") = some true) (nog : findIn K (.ref C) g = some none)
    (line : (a3.endLine == a5.line) = true) (room : A.depth < recursionLimit) (sf : (("self" : Str) == f) = false) (hb : BindsTo s fd args [("self", .ref x), (f, v)])
    (fin : ∀ h' tk dx t1, Kept1 s.heap h' x C dx t1 (fun y => if y = g then some v else none) → R (.ok (.ret .none)) { s with heap := h', toks := tk }) :
    codeAny (model prog w) A (.call (.ref fI) args) R s := by
  have X : K.In s.heap := MO.mod.kin.keeps kb
  obtain ⟨nm, qn, N, bs, bm, sn, sub, ab, col, dd, k0, k1, k2, k3, k5, hC, hbm⟩ := O.cls
  have hcl : clsIn K C = some { name := nm, bases := bs, mro := .ref C :: bm, ns := N, qualname := qn, hasDict := true, slotNames := sn, subclasses := sub, abstract := ab, collection := col, hasDel := false } := by
    unfold clsIn; rw [hC] <;> rfl
  obtain ⟨oc, od, osl, kV, doc, pm, an, ct, rfl, lk⟩ := id T.lk
  obtain ⟨hh, gg, dr, tk, os⟩ := s
  refine ks_codeAny_call_defAt room (X _ _ lk) rfl (MO.mod.nolimit.keeps kb) (codeRec_of X T.code) rfl hb TX.noCell (fun y hy => ?_) (fun h1 hns k1' => ?_) TX.co TX.gen TX.kind
  · rcases List.mem_cons.mp hy with rfl | hy
    · exact TX.slf
    rcases List.mem_cons.mp hy with rfl | hy
    · exact TX.par
    cases hy
  obtain ⟨m, hm⟩ : ∃ m : Str → Option Value, m = fun y => ([(("self" : Str), Value.ref x), (f, v)] : List (Str × Value)).reverse.lookup y := ⟨_, rfl⟩
  have hns' : h1.Ns hh.objs.size m := by rw [hm]; exact hns
  have mself : m "self" = some (.ref x) := by
    rw [hm]
    show List.lookup ("self" : Str) [(f, v), (("self" : Str), Value.ref x)] = some (.ref x)
    simp [List.lookup, sf]
  have mf : m f = some v := by
    rw [hm]
    show List.lookup f [(f, v), (("self" : Str), Value.ref x)] = some v
    simp [List.lookup]
  have hx1 := k1' _ _ hx
  have xL : hh.objs.size ≠ x := Nat.ne_of_gt (Heap.lt_size hx)
  show PySem.wpAt (model prog w) _ (.func _ (ksEnv q (scA f) hh.objs.size fI (.ref cda) cc)) (execs _ (ksEnv q (scA f) hh.objs.size fI (.ref cda) cc)) _ _ _
  refine ks_wpAt_execs_cons (ks_wpAt_Expr_any (ks_wpAt_MethodCall ?_ (heOf line rfl)))
  refine superHere T TX MO (fun b o e => k1' _ _ (kb b o e)) hns' mself hx1 rfl (fun c z => by cases z) sb (fun h2 hso k2' => ?_)
  have keep2 : ∀ b o, hh.get? b = some o → h2.get? b = some o := fun b o e => k2' _ _ (k1' _ _ e)
  have X2 : K.In h2 := X.keeps keep2
  have hx2 := keep2 _ _ hx
  have I2 : PySem.W.InstAt h2 x (excO C t0) C none := ⟨hx2, rfl, rfl, trivial⟩
  have xC : x ≠ C := ks_ne X2 I2 hcl
  have sI' : alongIn K "__init__" (((Value.ref C :: bm).dropWhile (· != .ref D)).drop 1) = some (some (.builtin "ValueError.__init__")) := by
    have z := sI
    unfold ks_superIn at z
    rw [hcl] at z
    exact z
  refine kxs_getMethod kxs_ValueError hso (looks_opaque X2 MO.opaq) (l₀ := .ref C :: bm) ((looks_clsIn X2 hcl).andThen .now) rfl X2 sI' (I2.type.andThen (looks_subIn X2 vB)) xC (by decide) ?_
  have k3' : ∀ b o, h2.get? b = some o → (h2.push (kxs_mw "ValueError.__init__" x)).get? b = some o := fun b o e => Heap.get?_push_of_some _ e
  have hu : (h2.push (kxs_mw "ValueError.__init__" x)).get? h2.objs.size = some (kxs_mw "ValueError.__init__" x) := Heap.get?_push_at rfl rfl
  refine kxs_callWith (i := "ValueError.__init__") (x := x) (by rfl) (evalArgs_plain (spliced_cons (wpAny_Constant_str (k := j) (pos := a4) (spliced_nil ⟨hu, ?_⟩))))
  refine callMw O (X2.keeps k3') (k3' _ _ hx2) hu (by show 1 ≤ sizeLine; rw [sizeLine_eq]; omega) fun h4 t1 k4 hx4 => ?_
  have keep4 : ∀ b o, b ≠ x → h1.get? b = some o → h4.get? b = some o := fun b o ne e => k4 b o ne (k3' _ _ (k2' _ _ e))
  obtain ⟨oL, es, ep, hL, rL⟩ := id hns'
  have hns4 : h4.Ns hh.objs.size m := ⟨oL, es, ep, keep4 _ _ xL hL, rL⟩
  have X4 : K.In h4 := fun a o e => by
    by_cases ha : a = x
    · subst ha
      have z := X _ _ e
      rw [hx] at z
      cases z
      exact absurd e (by rw [hnx]; exact fun z => nomatch z)
    · exact keep4 a o ha (k1' _ _ (X _ _ e))
  refine ks_wpAt_execs_cons (ks_wpAt_Assign_Attr (PySem.wpAt_of_wpAny (ldK TX.kind TX.par hns4 mf (ldK TX.kind TX.slf hns4 mself ?_ (by decide)) TX.nodb)))
  refine set_plain X4 (ox := excO C t1) (od := none) ⟨hx4, rfl, rfl, trivial⟩ O.sa ?_
  refine exc_osa X4 hx4 hcl (show refsVE (.ref C :: bm) = true from hbm) rfl nog (fun h5 tk5 dx k5' dn dne hx5 hn5 => ?_)
  refine PySem.wpAt_of_wpAny (wpAny_execs_nil ?_)
  refine fin h5 tk5 dx t1 ⟨fun b o ne e => k5' b o ne (keep4 b o ne (k1' b o e)), hx5, ?_, dne, hn5⟩
  have z : hh.objs.size < h4.objs.size := hns4.lt
  exact Nat.le_of_lt (Nat.lt_of_lt_of_le z dn)
end
end K86

set_option Elab.async false
set_option linter.all false
set_option maxRecDepth 100000
set_option maxHeartbeats 4000000
namespace K86
open PySem PySem.W PySem.Calls PyProof.Rows PySem.HandSPX
abbrev scR : Scope := scOf [(PySem.Str.ofString "self", .local), (PySem.Str.ofString "place", .local), (PySem.Str.ofString "reason", .local), (PySem.Str.ofString "__class__", .free), (PySem.Str.ofString "super", .globalImplicit)]
section
variable {prog : Program} {w : World} {A : Around} {E : Value → Shared → Prop} {R : Result → Shared → Prop} {s : Shared} {K : Frag} {mg : Str → Option Value} {base : Heap}
  {fI D cda cc x C t0 : Addr} {q : Str} {P : Arguments} {fd : FuncData}

/-- what a call of the def above hands on -/
def Above (prog : Program) (w : World) (K : Frag) (base : Heap) (f2 C : Addr) (g : Str) : Prop :=
  ∀ (A : Around) (R : Result → Shared → Prop) (s : Shared) (x t0 : Addr) (v : Value), (∀ b o, base.get? b = some o → s.heap.get? b = some o) → s.heap.get? x = some (excO C t0) → K.lookup x = none → A.depth < recursionLimit →
    (∀ h' tk dx t1, Kept1 s.heap h' x C dx t1 (fun y => if y = g then some v else none) → R (.ok (.ret .none)) { s with heap := h', toks := tk }) →
    codeAny (model prog w) A (.call (.ref f2) ⟨[.ref x, v], []⟩) R s

theorem initR {f2 : Addr} {a1 a2 a3 a4 a5 a6 b1 b2 b3 b4 : Pos} {args : Args} {p r : Value}
    (T : DefAt prog K fI D cda cc q P (twoRows (.Name "place" a4) "reason" "reason" a1 a2 a3 a5 a6 b1 b2 b3 b4) scR fd) (TX : TextOk P scR "reason") (MO : ModOk prog K mg base) (O : L2.OexC K C)
    (up : Above prog w K base f2 C "place") (kb : ∀ b o, base.get? b = some o → s.heap.get? b = some o) (hx : s.heap.get? x = some (excO C t0)) (hnx : K.lookup x = none) (sb : mroIn K C (.ref D) = some true)
    (sI : ks_superIn K C D "__init__" = some (some (.ref f2))) (ff : fnIn K f2 = true) (ft : typeIn K (.ref f2) = some (.type "function")) (nog : findIn K (.ref C) "reason" = some none)
    (line : (a3.endLine == a5.line) = true) (room : A.depth + 3 < recursionLimit) (hb : BindsTo s fd args [("self", .ref x), ("place", p), ("reason", r)])
    (fin : ∀ h' tk dx t1, Kept1 s.heap h' x C dx t1 (fun y => if y = "reason" then some r else if y = "place" then some p else none) → R (.ok (.ret .none)) { s with heap := h', toks := tk }) :
    codeAny (model prog w) A (.call (.ref fI) args) R s := by
  have X : K.In s.heap := MO.mod.kin.keeps kb
  obtain ⟨nm, qn, N, bs, bm, sn, sub, ab, col, dd, k0, k1, k2, k3, k5, hC, hbm⟩ := O.cls
  have hcl : clsIn K C = some { name := nm, bases := bs, mro := .ref C :: bm, ns := N, qualname := qn, hasDict := true, slotNames := sn, subclasses := sub, abstract := ab, collection := col, hasDel := false } := by
    unfold clsIn; rw [hC] <;> rfl
  obtain ⟨oc, od, osl, kV, doc, pm, an, ct, rfl, lk⟩ := id T.lk
  obtain ⟨hh, gg, dr, tk, os⟩ := s
  refine ks_codeAny_call_defAt (Nat.lt_of_le_of_lt (Nat.le_add_right _ 3) room) (X _ _ lk) rfl (MO.mod.nolimit.keeps kb) (codeRec_of X T.code) rfl hb TX.noCell (fun y hy => ?_) (fun h1 hns k1' => ?_) TX.co TX.gen TX.kind
  · rcases List.mem_cons.mp hy with rfl | hy
    · exact TX.slf
    rcases List.mem_cons.mp hy with rfl | hy
    · rfl
    rcases List.mem_cons.mp hy with rfl | hy
    · rfl
    cases hy
  obtain ⟨m, hm⟩ : ∃ m : Str → Option Value, m = fun y => ([(("self" : Str), Value.ref x), (("place" : Str), p), (("reason" : Str), r)] : List (Str × Value)).reverse.lookup y := ⟨_, rfl⟩
  have hns' : h1.Ns hh.objs.size m := by rw [hm]; exact hns
  have mself : m "self" = some (.ref x) := by rw [hm]; rfl
  have mp : m "place" = some p := by rw [hm]; rfl
  have mr : m "reason" = some r := by rw [hm]; rfl
  have hx1 := k1' _ _ hx
  have xL : hh.objs.size ≠ x := Nat.ne_of_gt (Heap.lt_size hx)
  show PySem.wpAt (model prog w) _ (.func _ (ksEnv q scR hh.objs.size fI (.ref cda) cc)) (execs _ (ksEnv q scR hh.objs.size fI (.ref cda) cc)) _ _ _
  refine ks_wpAt_execs_cons (ks_wpAt_Expr_any (ks_wpAt_MethodCall ?_ (heOf line rfl)))
  refine superHere T TX MO (fun b o e => k1' _ _ (kb b o e)) hns' mself hx1 rfl (fun c z => by cases z) sb (fun h2 hso k2' => ?_)
  have keep2 : ∀ b o, hh.get? b = some o → h2.get? b = some o := fun b o e => k2' _ _ (k1' _ _ e)
  have X2 : K.In h2 := X.keeps keep2
  have hx2 := keep2 _ _ hx
  have I2 : PySem.W.InstAt h2 x (excO C t0) C none := ⟨hx2, rfl, rfl, trivial⟩
  have xC : x ≠ C := ks_ne X2 I2 hcl
  have sI' : alongIn K "__init__" (((Value.ref C :: bm).dropWhile (· != .ref D)).drop 1) = some (some (.ref f2)) := by
    have z := sI
    unfold ks_superIn at z
    rw [hcl] at z
    exact z
  obtain ⟨of, hof, hofc⟩ : ∃ of, h2.get? f2 = some of ∧ of.cls = .type "function" := by
    have z : (K.lookup f2).map (·.cls) = some (.type "function") := ft
    cases e : K.lookup f2 with
    | none => rw [e] at z; cases z
    | some of => rw [e] at z; exact ⟨of, X2 _ _ e, Option.some.inj z⟩
  refine ks_wpAny_getMethod_super hso (looks_opaque X2 MO.opaq) (l₀ := .ref C :: bm) ((looks_clsIn X2 hcl).andThen .now) rfl X2 sI' hof hofc xC (by decide) ?_
  have k3' : ∀ b o, h2.get? b = some o → (h2.push (methodObj (.ref f2) (.ref x))).get? b = some o := fun b o e => Heap.get?_push_of_some _ e
  have hu : (h2.push (methodObj (.ref f2) (.ref x))).get? h2.objs.size = some (methodObj (.ref f2) (.ref x)) := Heap.get?_push_at rfl rfl
  have hns3 : (h2.push (methodObj (.ref f2) (.ref x))).Ns hh.objs.size m := by
    obtain ⟨oL, es, ep, hL, rL⟩ := id hns'
    exact ⟨oL, es, ep, k3' _ _ (k2' _ _ hL), rL⟩
  have X3 : K.In (h2.push (methodObj (.ref f2) (.ref x))) := X2.keeps k3'
  refine callWith_of (P := MethP K h2.objs.size f2 (.ref x)) (by rfl) (keeps_M ff) (evalArgs_plain (spliced_cons (ldK (S := scR) (pos := a4) rfl rfl hns3 mp (spliced_nil ⟨⟨hu, X3⟩, ?_⟩) (by decide))))
  refine wpAny_call (ks_codeAny_call_bound hu (up _ _ _ x t0 p (fun b o e => k3' _ _ (keep2 _ _ (kb _ _ e))) (k3' _ _ hx2) hnx ?_ fun h4 tk4 dx t1 KP => ?_))
  · show A.depth + 1 < _
    omega
  have keep4 : ∀ b o, b ≠ x → h1.get? b = some o → h4.get? b = some o := fun b o ne e => KP.keep b o ne (k3' _ _ (k2' _ _ e))
  have hns4 : h4.Ns hh.objs.size m := by
    obtain ⟨oL, es, ep, hL, rL⟩ := id hns'
    exact ⟨oL, es, ep, keep4 _ _ xL hL, rL⟩
  have X4 : K.In h4 := fun a o e => by
    by_cases ha : a = x
    · subst ha
      exact absurd e (by rw [hnx]; exact fun z => nomatch z)
    · exact keep4 a o ha (k1' _ _ (X _ _ e))
  have hw : Within (fun y => if y = ("place" : Str) then some p else none) ["place"] := fun y hy => by
    by_cases e : y = ("place" : Str)
    · subst e
      exact List.mem_cons_self
    · exact absurd (if_neg e) hy
  obtain ⟨oD, _, _, hoD, _, _⟩ := KP.ns.count hw
  refine ks_wpAt_execs_cons (ks_wpAt_Assign_Attr (PySem.wpAt_of_wpAny (ldK (S := scR) rfl rfl hns4 mr (ldK (S := scR) rfl rfl hns4 mself ?_ (by decide)) (by decide))))
  refine set_plain X4 (ox := { cls := .ref C, dict := some dx, data := .fields #[.ref t1, .none, .none, .none, .bool false, .none] }) (od := some oD) ⟨KP.obj, rfl, rfl, hoD⟩ O.sa ?_
  refine PySem.OEX.osa_old X4 KP.obj KP.ns hw (by decide) hcl (show refsVE (.ref C :: bm) = true from hbm) rfl nog (fun h5 tk5 k5' hn5 => ?_)
  refine PySem.wpAt_of_wpAny (wpAny_execs_nil ?_)
  have z : hh.objs.size < h1.objs.size := hns'.lt
  have z2 : hh.objs.size ≤ dx := by
    have a1 := KP.big
    have a2 : hh.objs.size < (h2.push (methodObj (.ref f2) (.ref x))).objs.size := hns3.lt
    exact Nat.le_of_lt (Nat.lt_of_lt_of_le a2 a1)
  refine fin h5 tk5 dx t1 ⟨fun b o ne e => k5' b o (fun q => ?_) (keep4 b o ne (k1' b o e)), k5' x _ KP.ne.symm KP.obj, z2, KP.ne, hn5⟩
  subst q
  exact absurd (Heap.lt_size e) (Nat.not_lt.mpr z2)
end
end K86

set_option Elab.async false
set_option linter.all false
set_option maxRecDepth 100000
set_option maxHeartbeats 4000000
/-! Rules of the hand layer for exceptions that are held as values: made, read, asked for their class; and for repr of data. -/
namespace K86
open PySem PySem.Spec PyProof.Rows L2
section
variable {X : Cx} {pins : List (Addr × Obj)} {σ : L2.St} {H : Hp} {s : Shared}
/-- two new things laid at once -/
theorem laid2 {h' : Heap} {a b : Addr} {o u : HO} {t' : Nat} (I : Inv X pins σ H s) (k : ∀ c v, s.heap.get? c = some v → h'.get? c = some v) (ha : s.heap.objs.size ≤ a) (hb : s.heap.objs.size ≤ b)
    (na : ObjOk X.prog X.w (upd (upd H b u) a o) h' a o) (nb : ObjOk X.prog X.w (upd (upd H b u) a o) h' b u) : Inv X pins σ (upd (upd H b u) a o) { s with heap := h', toks := t' } := by
  have fa := I.hok.fresh ha
  have fb := I.hok.fresh hb
  have va : ∀ {c : Addr} {v : Obj}, s.heap.get? c = some v → c ≠ a := fun q => Nat.ne_of_lt (Nat.lt_of_lt_of_le (Heap.lt_size q) ha)
  have vb : ∀ {c : Addr} {v : Obj}, s.heap.get? c = some v → c ≠ b := fun q => Nat.ne_of_lt (Nat.lt_of_lt_of_le (Heap.lt_size q) hb)
  have stay : ∀ {c : Addr} {v : HO}, H c = some v → upd (upd H b u) a o c = some v := fun {c v} q => by
    rw [upd_ne (ne_of_none q fa), upd_ne (ne_of_none q fb)]; exact q
  have U : Un X.fs [] H (upd (upd H b u) a o) s.heap h' :=
    ⟨fun c v q _ _ _ => k c v q, fun c v q _ _ _ => ⟨v.slots, k c v q⟩, fun c v q n _ => (by rw [upd_ne (va q), upd_ne (vb q)]; exact n), fun c v q _ => ⟨v, k c v q⟩,
      fun c xs q => stay q, fun c v x q => stay q, fun c ps q => ⟨#[], by rw [stay q]; simp⟩⟩
  refine I.un (t' := t') U (fun c v q => ?_)
  by_cases ea : c = a
  · subst ea
    rw [upd_same] at q
    cases q
    exact na
  · by_cases eb : c = b
    · subst eb
      rw [upd_ne ea, upd_same] at q
      cases q
      exact nb
    · rw [upd_ne ea, upd_ne eb] at q
      exact (I.hok c v q).stay (fun x y _ z => k x y z) (fun x z => stay z) fun x ys z => stay z
end

/-! ### what a call of the class makes -/
structure Made (h h' : Heap) (e C d : Addr) (mm : Str → Option Value) : Prop where
  keep : ∀ b o, h.get? b = some o → h'.get? b = some o
  big : h.objs.size ≤ e
  obj : ∃ t1 : Addr, h'.get? e = some ({ cls := .ref C, dict := some d, data := .fields #[.ref t1, .none, .none, .none, .bool false, .none] } : Obj)
  dbig : h.objs.size ≤ d
  dne : d ≠ e
  ns : h'.Ns1 d mm
def MakesP (prog : Program) (w : World) (base : Heap) (C : Addr) (us : List Value) (kw : List (Str × Value)) (mm : Str → Option Value) : Prop :=
  ∀ (A : Around) (E : Value → Shared → Prop) (s : Shared) (Q : Value → Shared → Prop), (∀ b o, base.get? b = some o → s.heap.get? b = some o) → A.depth + 8 < recursionLimit →
    (∀ h' tk e d, Made s.heap h' e C d mm → Q (.ref e) { s with heap := h', toks := tk }) → wpAny (model prog w) A (call (.ref C) us kw) Q E s
theorem makes_of {prog : Program} {w : World} {K : PySem.W.Frag} {base : Heap} {C fI : Addr} {us : List Value} {kw : List (Str × Value)} {mm : Str → Option Value} (O : OexC K C) (kin : K.In base)
    (iC : PySem.W.findIn K (.ref C) "__init__" = some (some (.ref fI))) (tI : PySem.W.typeIn K (.ref fI) = some (.type "function")) (few : us.length ≤ sizeLine)
    (init : ∀ (A : Around) (R : Result → Shared → Prop) (s : Shared) (x t0 : Addr), (∀ b o, base.get? b = some o → s.heap.get? b = some o) → s.heap.get? x = some (HandSPX.excO C t0) → K.lookup x = none → A.depth + 5 < recursionLimit →
      (∀ h' tk dx t1, Kept1 s.heap h' x C dx t1 mm → R (.ok (.ret .none)) { s with heap := h', toks := tk }) → codeAny (model prog w) A (.call (.ref fI) ⟨.ref x :: us, kw⟩) R s) : MakesP prog w base C us kw mm := by
  intro A E s Q kb room fin
  have X : K.In s.heap := kin.keeps kb
  obtain ⟨nm, q, N, bs, bm, sn, sub, ab, col, dd, k0, k1, k2, k3, k5, hC, hbm⟩ := O.cls
  obtain ⟨hp, g, dr, tk, os⟩ := s
  have kk : ∀ b o, hp.get? b = some o → ((hp.push (PySem.W.kdv_tup us)).push (HandSPX.excO C hp.objs.size)).get? b = some o := fun b o e => Heap.get?_push_of_some _ (Heap.get?_push_of_some _ e)
  have hget : ((hp.push (PySem.W.kdv_tup us)).push (HandSPX.excO C hp.objs.size)).get? (hp.objs.size + 1) = some (HandSPX.excO C hp.objs.size) := by heap_get
  have hnx : K.lookup (hp.objs.size + 1) = none := by
    cases e : K.lookup (hp.objs.size + 1) with
    | none => rfl
    | some o => exact absurd (Nat.lt_of_succ_lt (Heap.lt_size (X _ _ e))) (Nat.lt_irrefl _)
  refine wpAny_call (callKw F.excBase_ValueError (fun Y => HandSPX.refsVE_contains Y bm hbm) (X _ _ hC) (PySem.W.looks_findIn X iC) (fun self => PySem.W.bind_fn X self tI) few
    (init _ _ _ (hp.objs.size + 1) hp.objs.size (fun b o e => kk b o (kb b o e)) hget hnx ?_ fun h' tk' dx t1 KP => ?_))
  · show (A.under (.builtin "type.__call__" ⟨.ref C :: us, kw⟩)).depth + 5 < recursionLimit
    rw [make_depth]
    omega
  · have old : ∀ b o, hp.get? b = some o → h'.get? b = some o := fun b o e => KP.keep b o (Nat.ne_of_lt (Nat.lt_succ_of_lt (Heap.lt_size e))) (kk b o e)
    have z : hp.objs.size ≤ dx := by
      have y := KP.big
      simp only [Heap.size_push] at y
      omega
    exact ⟨rfl, fin h' tk' (hp.objs.size + 1) dx ⟨old, Nat.le_succ _, ⟨t1, KP.obj⟩, z, KP.ne, KP.ns⟩⟩

section
variable {X : Cx} {pins : List (Addr × Obj)} {σ : L2.St} {H : Hp} {s : Shared}
/-- behind the call: the exception and its dict are tracked -/
theorem made_ep {C : Addr} {us : List Value} {kw : List (Str × Value)} {mm : Str → Option Value} {fs : List (Str × V)} {Q : VK} (I : Inv X pins σ H s) (mk : MakesP X.prog X.w X.base C us kw mm) (rel : ∀ f, RelO (fs.lookup f) (mm f)) (room : X.A.depth + 8 < recursionLimit)
    (q : ∀ e d H2, Same H H2 → H e = none → H2 e = some (exo e C (some d)) → H2 d = some (exd d fs) → Q (.ref e) H2) : wpAny (model X.prog X.w) X.A (call (.ref C) us kw) (EP X pins σ Q) X.xe s := by
  refine mk _ _ _ _ I.bk room fun h' tk e d M => ?_
  obtain ⟨t1, ob⟩ := M.obj
  have fe := I.hok.fresh M.big
  have fd := I.hok.fresh M.dbig
  refine ⟨.ref e, _, laid2 (o := exo e C (some d)) (u := exd d fs) I M.keep M.big M.dbig (exo_ok ob) (exd_ok M.ns rel), rfl, q e d _ (fun b o z => ?_) fe upd_same (by rw [upd_ne M.dne, upd_same])⟩
  rw [upd_ne (ne_of_none z fe), upd_ne (ne_of_none z fd)]
  exact z
/-- C(..): a new exception, its dict holds fs -/
def tMkX (C : Addr) (n : Nat) (fsOf : List V → List (Str × V)) (ta : TA) : TE := fun σ H Q => ta σ H fun vs H1 => vs.length = n ∧
  ∀ e d H2, Same H1 H2 → H1 e = none → H2 e = some (exo e C (some d)) → H2 d = some (exd d (fsOf vs)) → Q (.ref e) H2
theorem pe_mkP {C : Addr} {n k : Nat} {fsOf : List V → List (Str × V)} {x : Str} {e : Expr} {es : List Expr} {ta : TA} {p pos : Pos} (hr : Room (k + 1) X.A) (hg : Gl X x) (hm : X.mg x = some (.ref C)) (hk : PySem.W.keepIn X.K (.ref C) = true)
    (mk : Mod X.K X.mg X.base → ∀ (vs : List V) (us : List Value), vs.length = n → Vals vs us → ∃ mm, MakesP X.prog X.w X.base C us [] mm ∧ ∀ f, RelO ((fsOf vs).lookup f) (mm f)) (ha : PA X (e :: es) ta)
    (hdb : (x == ("__debug__" : Str)) = false := by decide) (he : starEach (e :: es) X.env = (false, eval e X.env) :: starEach es X.env := by rfl) (hpl : (backTo pos (starEach es X.env)).any (·.1) = false := by rfl) :
    PE X (.Call (.Name x p) (e :: es) [] pos) (tMkX C n fsOf ta) := by
  refine ⟨fun pins s σ H Q I h => ?_⟩
  refine wpAny_Call_Name_kw (ld_glob I hg hm ?_ hdb)
  refine PySem.W.callWith_K (h₀ := X.base) I.ok.mod.kin hk (thn (ha.run pos pins s σ H _ I h) fun us s1 ⟨vs, H1, I1, r1, hl, q1⟩ => ⟨I1.kIn, ?_⟩) he hpl
  obtain ⟨mm, mk1, rel⟩ := mk I1.mod vs us hl r1
  exact made_ep I1 mk1 rel (by have := hr.dp; omega) q1
theorem pe_mkK {C : Addr} {n k : Nat} {fsOf : List V → List (Str × V)} {x : Str} {kws : List Keyword} {ks : List Str} {tk : TA} {p pos : Pos} (hr : Room (k + 1) X.A) (hg : Gl X x) (hm : X.mg x = some (.ref C)) (hk : PySem.W.keepIn X.K (.ref C) = true)
    (mk : Mod X.K X.mg X.base → ∀ (vs : List V) (us : List Value), vs.length = n → Vals vs us → ∃ mm, MakesP X.prog X.w X.base C [] (ks.zip us) mm ∧ ∀ f, RelO ((fsOf vs).lookup f) (mm f)) (hkw : PK X kws tk)
    (hall : (backToKw pos (keywordEach kws X.env)).all (·.1.isSome) = true := by rfl) (hks : (backToKw pos (keywordEach kws X.env)).filterMap (·.1) = ks := by rfl)
    (hdb : (x == ("__debug__" : Str)) = false := by decide) (hpl : ((backTo pos (starEach [] X.env)).any (·.1) || (backToKw pos (keywordEach kws X.env)).any (·.1.isNone)) = false := by rfl) :
    PE X (.Call (.Name x p) [] kws pos) (tMkX C n fsOf tk) := by
  refine ⟨fun pins s σ H Q I h => ?_⟩
  refine wpAny_Call_Name_kw (ld_glob I hg hm ?_ hdb)
  refine PySem.W.callWith_KW0 (h₀ := X.base) I.ok.mod.kin hk hall (thn (hkw.run pos pins s σ H _ I h) fun us s1 ⟨vs, H1, I1, r1, hl, q1⟩ => ⟨I1.kIn, ?_⟩) hpl
  rw [hks]
  obtain ⟨mm, mk1, rel⟩ := mk I1.mod vs us hl r1
  exact made_ep I1 mk1 rel (by have := hr.dp; omega) q1
/-- C(), no __init__ but the built-in one -/
def tMk0 (C : Addr) : TE := fun _ H Q => ∀ e H2, Same H H2 → H e = none → H2 e = some (exo e C none) → Q (.ref e) H2
theorem pe_mk0 {C : Addr} {x : Str} {p pos : Pos} (q : PySem.W.excIn X.K C [.type "ValueError", .type "Exception", .type "BaseException", .type "object"] "ValueError.__new__" = true) (hg : Gl X x) (hm : X.mg x = some (.ref C)) (hk : PySem.W.keepIn X.K (.ref C) = true)
    (hdb : (x == ("__debug__" : Str)) = false := by decide) : PE X (.Call (.Name x p) [] [] pos) (tMk0 C) := by
  refine ⟨fun pins s σ H Q I h => ?_⟩
  refine wpAny_Call_Name_kw (ld_glob I hg hm ?_ hdb)
  refine PySem.W.callWith_K0 I.kIn hk ?_
  show wpAny _ _ (call (.ref C) []) _ _ _
  obtain ⟨bm, N, nm, qn, bs, hdct, sn, sub, ab, col, dd, k0, k1, k2, k3, k5, mN, hC, hN, hni, T⟩ := exc_obj I.kIn q
  obtain ⟨hp, g, dr, tk, os⟩ := s
  refine wpAny_call_exc_subT F.excBase_ValueError T hC hN hni (fun h' a M => ?_) (Nat.zero_le _)
  have hn : H a = none := I.hok.gone M.new
  obtain ⟨t, ht, _, _⟩ := M.there
  refine ⟨.ref a, upd H a (exo a C none), I.laidN M.keeps M.new hn (exo_ok ht), rfl, h a _ (fun b o z => ?_) hn upd_same⟩
  rw [upd_ne (ne_of_none z hn)]
  exact z

/-! ### an attribute of such an exception, isinstance -/
structure ReadC (K : PySem.W.Frag) (C : Addr) : Prop where
  ga : PySem.W.findIn K (.ref C) "__getattribute__" = some (some (.builtin "BaseException.__getattribute__"))
  gt : PySem.W.findIn K (.ref C) "__getattr__" = some none
  sb : PySem.W.subIn K (.ref C) (.type "BaseException") = some true
  hd : PySem.W.hasDictIn K C = true
  hcl : (PySem.W.clsIn K C).isSome = true
  ha : PySem.W.findIn K (.ref C) "__class__" = some (some (.builtin "object.__class__"))
  hn : PySem.W.specialIn K (.builtin "object.__class__") "__get__" = some (some (.builtin "getset_descriptor.__get__"))
  htk : PySem.W.takesIn K (.builtin "object.__class__") = some true
  hm : PySem.W.mroIn K C (.type "object") = some true
def tGetX (K : PySem.W.Frag) (f : Str) (to : TE) : TE := fun σ H Q => to σ H fun x H1 => ∃ (a C d : Addr) (fs : List (Str × V)) (v : V), x = .ref a ∧ ReadC K C ∧ PySem.W.findIn K (.ref C) f = some none ∧
  H1 a = some (exo a C (some d)) ∧ H1 d = some (exd d fs) ∧ fs.lookup f = some v ∧ Q v H1
theorem pe_getX {f : Str} {o : Expr} {to : TE} {pos : Pos} (ho : PE X o to) (hb : attributeBase o f X.env (eval o X.env) = eval o X.env := by rfl) : PE X (.Attribute o f pos) (tGetX X.K f to) := by
  refine ⟨fun pins s σ H Q I h => ?_⟩
  refine attr_of hb (thn (ho.run pins s σ H _ I h) fun u s1 ⟨x, H1, I1, rx, a, C, d, fs, v, ex, T, nf, ea, ed, el, q⟩ => ?_)
  subst ex
  obtain rfl : u = Value.ref a := rx
  obtain ⟨t1, oa⟩ := exo_at I1.hok ea
  obtain ⟨mA, hns, rel⟩ := exd_at I1.hok ed
  obtain ⟨od, hod, hl⟩ := lookIn_ns hns
  obtain ⟨u, hu, ru⟩ := RelO.some_of (v := v) (o := mA f) (by rw [← el]; exact rel f)
  exact HandSPX.exc_get I1.kIn (od := some od) ⟨oa, rfl, rfl, hod⟩ T.ga T.gt T.sb (PySem.W.findObj_own T.hd nf rfl (by rw [hl, hu])) (handed_of ru) ⟨v, H1, I1.tok _, ru, q⟩
/-- at e: an exception of the class C with the fields fs -/
def ErrAt (H : Hp) (C e : Addr) (fs : List (Str × V)) : Prop := (fs = [] ∧ H e = some (exo e C none)) ∨ ∃ d, H e = some (exo e C (some d)) ∧ H d = some (exd d fs)
theorem ErrAt.same {H' : Hp} {C e : Addr} {fs : List (Str × V)} (h : ErrAt H C e fs) (k : Same H H') : ErrAt H' C e fs := by
  rcases h with ⟨a, b⟩ | ⟨d, a, b⟩
  · exact .inl ⟨a, k _ _ b⟩
  · exact .inr ⟨d, k _ _ a, k _ _ b⟩
def rIsX (K : PySem.W.Frag) : List V → Hp → VK → Prop := fun xs H Q => ∃ (e C : Addr) (fs : List (Str × V)) (c : V) (u : Value) (b : Bool), xs = [.ref e, c] ∧ ReadC K C ∧ ErrAt H C e fs ∧ ClsV c u ∧ PySem.W.kitOne K (.ref C) u = some b ∧ Q (.bl b) H
theorem call_isX : CallR X (.builtin "isinstance") (rIsX X.K) := by
  intro pins s σ H xs us Q I r h
  obtain ⟨e, C, fs, c, u, b, rfl, T, hE, k, ek, q⟩ := h
  obtain ⟨u1, u2, rfl, r1, r2⟩ := vals2 r
  have e2 := k.eq r2
  subst e2
  obtain rfl : u1 = Value.ref e := r1
  rcases hE with ⟨_, ea⟩ | ⟨d, ea, ed⟩
  · obtain ⟨t1, oa⟩ := exo_at I.hok ea
    exact PySem.W.kia_one (PySem.W.kitx_exc (od := none) T.hcl T.ga T.gt T.sb T.ha T.hn T.htk T.hm) I.kIn ⟨oa, rfl, rfl, trivial⟩ ek (fun z => nomatch z) fun tk => ⟨.bl b, H, I.tok tk, rfl, q⟩
  · obtain ⟨t1, oa⟩ := exo_at I.hok ea
    obtain ⟨mA, hns, rel⟩ := exd_at I.hok ed
    obtain ⟨od, hod, hl⟩ := lookIn_ns hns
    exact PySem.W.kia_one (PySem.W.kitx_exc (od := some od) T.hcl T.ga T.gt T.sb T.ha T.hn T.htk T.hm) I.kIn ⟨oa, rfl, rfl, hod⟩ ek (fun z => nomatch z) fun tk => ⟨.bl b, H, I.tok tk, rfl, q⟩

/-! ### repr of data -/
def rRep (K : PySem.W.Frag) : List V → Hp → VK → Prop := fun xs H Q => ∃ (a : Addr) (d : PyData), xs = [.ref a] ∧ Dp K H (.ref a) d ∧ d.showable = true ∧ d.hasDict = false ∧ d.depth ≤ 20 ∧ d.shown.length ≤ sizeLine ∧ Q (.str d.shown) H
theorem call_rep (hg : X.A.guards = some []) (hu : X.A.units + 64 < cLine) : CallR X (.builtin "repr") (rRep X.K) := by
  intro pins s σ H xs us Q I r h
  obtain ⟨a, d, rfl, hd, sh, nd, dp, sz, q⟩ := h
  obtain ⟨u1, rfl, r1⟩ := vals1 r
  obtain rfl : u1 = Value.ref a := r1
  obtain ⟨as, rd⟩ := Dp.reads I d _ _ hd rfl
  exact repr_of_reads' rd sh (fun z => absurd z (by rw [nd]; decide)) hg (by omega) (fun _ _ z => z) (fun h' t tk k => ⟨.str d.shown, H, I.kept (t' := tk) k, ⟨t, rfl⟩, q⟩) sz
end
end K86

set_option Elab.async false
set_option linter.all false
set_option maxRecDepth 100000
set_option maxHeartbeats 4000000
namespace K86
open PySem PySem.Spec PyProof.Rows L2
open PySem.W (Frag findIn subIn typeIn keepIn hasDictIn clsIn mroIn codeIn nsIn specialIn takesIn ks_superIn fnIn excIn ksFn)
/-! ### what is asked of a class, reckoned -/
def okC (K : Frag) (C : Addr) (g : Str) : Bool :=
  findIn K (.ref C) "__setattr__" == some (some (.builtin "object.__setattr__")) && (findIn K (.ref C) "__getattribute__" == some (some (.builtin "BaseException.__getattribute__")) &&
  (findIn K (.ref C) "__getattr__" == some none && (findIn K (.ref C) "__class__" == some (some (.builtin "object.__class__")) && (findIn K (.ref C) g == some none &&
  (subIn K (.ref C) (.type "BaseException") == some true && (typeIn K (.ref C) == some (.type "type") && (keepIn K (.ref C) && (hasDictIn K C && ((clsIn K C).isSome && mroIn K C (.type "object") == some true)))))))))
def okI (K : Frag) (C D fI cda : Addr) (q : Str) (up : Value) : Bool :=
  findIn K (.ref C) "__init__" == some (some (.ref fI)) && (typeIn K (.ref fI) == some (.type "function") && (mroIn K C (.ref D) == some true && (codeIn K (.ref cda) q && ((clsIn K D).isSome &&
  (subIn K (.ref C) (.type "ValueError") == some true && ks_superIn K C D "__init__" == some (some up))))))
def okR (K : Frag) (C f2 : Addr) : Bool :=
  fnIn K f2 && (typeIn K (.ref f2) == some (.type "function") && findIn K (.ref C) "reason" == some none)
def okM (K : Frag) : Bool :=
  nsIn K mainGlobals "super" == some none && (nsIn K cStatics "thirdparty.any" == some none && (specialIn K (.builtin "object.__class__") "__get__" == some (some (.builtin "getset_descriptor.__get__")) && takesIn K (.builtin "object.__class__") == some true))
/-- the class's own record -/
def ClsRec (K : Frag) (C : Addr) : Prop := ∃ nm q N bs bm sn sub ab col dd k0 k1 k2 k3 k5, K.lookup C = some (excClassObj nm q C N bs bm true sn sub ab col dd k0 k1 k2 k3 k5 "ValueError.__new__") ∧ HandSPX.refsVE bm = true
structure ModK (prog : Program) (K : Frag) (mg : Str → Option Value) : Prop where
  ok : okM K = true
  sup : mg "super" = none
  top : (prog.main.scope.names.lookup ("super" : Str)).isSome = false
section
variable {prog : Program} {w : World} {K : Frag} {mg : Str → Option Value} {base : Heap} {C D fI cda cc : Addr} {q g f : Str} {P : Arguments} {fd : FuncData}
theorem ModK.mod (M : ModK prog K mg) (m : Mod K mg base) : ModOk prog K mg base := by
  have h := M.ok
  simp only [okM, Bool.and_eq_true, beq_iff_eq] at h
  exact ⟨m, M.sup, M.top, h.2.1⟩
theorem oex_of (r : ClsRec K C) (o : okC K C g = true) : OexC K C := by
  simp only [okC, Bool.and_eq_true, beq_iff_eq] at o
  obtain ⟨a1, a2, a3, a4, a5, a6, a7, a8, a9, a10, a11⟩ := o
  exact ⟨r, a1, a6, a7, a8⟩
theorem readC_of (M : ModK prog K mg) (o : okC K C g = true) : ReadC K C ∧ findIn K (.ref C) g = some none ∧ keepIn K (.ref C) = true := by
  have h := M.ok
  simp only [okM, Bool.and_eq_true, beq_iff_eq] at h
  simp only [okC, Bool.and_eq_true, beq_iff_eq] at o
  obtain ⟨a1, a2, a3, a4, a5, a6, a7, a8, a9, a10, a11⟩ := o
  exact ⟨⟨a2, a3, a6, a9, a10, a4, h.2.2.1, h.2.2.2, a11⟩, a5, a8⟩
/-- a class whose __init__ keeps one thing -/
structure Kind (prog : Program) (w : World) (K : Frag) (mg : Str → Option Value) (nm : Str) (C : Addr) (g par : Str) : Prop where
  gC : mg nm = some (.ref C)
  kC : keepIn K (.ref C) = true
  pos : ∀ base, Mod K mg base → ∀ v, MakesP prog w base C [v] [] (fun y => if y = g then some v else none)
  kw : ∀ base, Mod K mg base → ∀ v, MakesP prog w base C [] [(par, v)] (fun y => if y = g then some v else none)
  rd : ReadC K C
  no : findIn K (.ref C) g = some none
theorem kindA {nm : Str} {txt : Str} {j : Nat} {a1 a2 a3 a4 a5 a6 b1 b2 b3 b4 : Pos} (M : ModK prog K mg) (gC : mg nm = some (.ref C)) (r : ClsRec K C) (o : okC K C g = true) (i : okI K C D fI cda q (.builtin "ValueError.__init__") = true)
    (T : DefAt prog K fI D cda cc q P (twoRows (.Constant (.str txt) j a4) f g a1 a2 a3 a5 a6 b1 b2 b3 b4) (scA f) fd) (TX : TextOk P (scA f) f) (line : (a3.endLine == a5.line) = true) (sf : (("self" : Str) == f) = false)
    (hb : ∀ (kV doc pm : Value) (an : Option Addr) (ct : Value) (x : Addr) (v : Value), bindArgs (ksFn "__init__" q P (twoRows (.Constant (.str txt) j a4) f g a1 a2 a3 a5 a6 b1 b2 b3 b4) (scA f) .none kV doc pm an (.ref cda) ct cc) ⟨[.ref x, v], []⟩ = pure [(("self" : Str), Value.ref x), (f, v)])
    (hk : ∀ (kV doc pm : Value) (an : Option Addr) (ct : Value) (x : Addr) (v : Value), bindArgs (ksFn "__init__" q P (twoRows (.Constant (.str txt) j a4) f g a1 a2 a3 a5 a6 b1 b2 b3 b4) (scA f) .none kV doc pm an (.ref cda) ct cc) ⟨[.ref x], [(f, v)]⟩ = pure [(("self" : Str), Value.ref x), (f, v)]) :
    Kind prog w K mg nm C g f := by
  have O : OexC K C := oex_of r o
  obtain ⟨rd, no, kC⟩ := readC_of M o
  simp only [okI, Bool.and_eq_true, beq_iff_eq] at i
  obtain ⟨i1, i2, i3, i4, i5, i6, i7⟩ := i
  obtain ⟨oc, od, osl, kV, doc, pm, an, ct, efd, lk⟩ := id T.lk
  refine ⟨gC, kC, fun base m v => ?_, fun base m v => ?_, rd, no⟩
  · exact makes_of O m.kin i1 i2 (by rw [sizeLine_eq]; show 1 ≤ _; omega) fun A R s x t0 kb hx hnx room fin =>
      initA T TX (M.mod m) O kb hx hnx i3 i7 i6 no line (by omega) sf (by rw [efd]; exact .of_eq (hb _ _ _ _ _ x v)) fin
  · exact makes_of O m.kin i1 i2 (by rw [sizeLine_eq]; show 0 ≤ _; omega) fun A R s x t0 kb hx hnx room fin =>
      initA T TX (M.mod m) O kb hx hnx i3 i7 i6 no line (by omega) sf (by rw [efd]; exact .of_eq (hk _ _ _ _ _ x v)) fin
/-- Refused -/
structure KindR (prog : Program) (w : World) (K : Frag) (mg : Str → Option Value) (C : Addr) : Prop where
  gC : mg "Refused" = some (.ref C)
  kC : keepIn K (.ref C) = true
  pos : ∀ base, Mod K mg base → ∀ p r, MakesP prog w base C [p, r] [] (fun y => if y = "reason" then some r else if y = "place" then some p else none)
  kw : ∀ base, Mod K mg base → ∀ p r, MakesP prog w base C [] [("reason", r), ("place", p)] (fun y => if y = "reason" then some r else if y = "place" then some p else none)
  rd : ReadC K C
  no : findIn K (.ref C) "place" = some none
  no2 : findIn K (.ref C) "reason" = some none
theorem aboveA {S f2 : Addr} {txt : Str} {j : Nat} {a1 a2 a3 a4 a5 a6 b1 b2 b3 b4 : Pos} (MO : ModOk prog K mg base) (O : OexC K C)
    (T : DefAt prog K f2 S cda cc q P (twoRows (.Constant (.str txt) j a4) f g a1 a2 a3 a5 a6 b1 b2 b3 b4) (scA f) fd) (TX : TextOk P (scA f) f) (line : (a3.endLine == a5.line) = true) (sf : (("self" : Str) == f) = false)
    (sb : mroIn K C (.ref S) = some true) (sI : ks_superIn K C S "__init__" = some (some (.builtin "ValueError.__init__"))) (vB : subIn K (.ref C) (.type "ValueError") = some true) (no : findIn K (.ref C) g = some none)
    (hb : ∀ (kV doc pm : Value) (an : Option Addr) (ct : Value) (x : Addr) (v : Value), bindArgs (ksFn "__init__" q P (twoRows (.Constant (.str txt) j a4) f g a1 a2 a3 a5 a6 b1 b2 b3 b4) (scA f) .none kV doc pm an (.ref cda) ct cc) ⟨[.ref x, v], []⟩ = pure [(("self" : Str), Value.ref x), (f, v)]) :
    Above prog w K base f2 C g := by
  intro A R s x t0 v kb hx hnx room fin
  obtain ⟨oc, od, osl, kV, doc, pm, an, ct, efd, lk⟩ := id T.lk
  exact initA T TX MO O kb hx hnx sb sI vB no line room sf (by rw [efd]; exact .of_eq (hb _ _ _ _ _ x v)) fin
theorem kindR {a1 a2 a3 a4 a5 a6 b1 b2 b3 b4 : Pos} {f2 : Addr} (M : ModK prog K mg) (gC : mg "Refused" = some (.ref C)) (r : ClsRec K C) (o : okC K C "place" = true) (i : okI K C D fI cda q (.ref f2) = true) (o2 : okR K C f2 = true)
    (T : DefAt prog K fI D cda cc q P (twoRows (.Name "place" a4) "reason" "reason" a1 a2 a3 a5 a6 b1 b2 b3 b4) scR fd) (TX : TextOk P scR "reason") (line : (a3.endLine == a5.line) = true)
    (up : ∀ base, ModOk prog K mg base → OexC K C → Above prog w K base f2 C "place")
    (hb : ∀ (kV doc pm : Value) (an : Option Addr) (ct : Value) (x : Addr) (p r : Value), bindArgs (ksFn "__init__" q P (twoRows (.Name "place" a4) "reason" "reason" a1 a2 a3 a5 a6 b1 b2 b3 b4) scR .none kV doc pm an (.ref cda) ct cc) ⟨[.ref x, p, r], []⟩ = pure [(("self" : Str), Value.ref x), ("place", p), ("reason", r)])
    (hk : ∀ (kV doc pm : Value) (an : Option Addr) (ct : Value) (x : Addr) (p r : Value), bindArgs (ksFn "__init__" q P (twoRows (.Name "place" a4) "reason" "reason" a1 a2 a3 a5 a6 b1 b2 b3 b4) scR .none kV doc pm an (.ref cda) ct cc) ⟨[.ref x], [("reason", r), ("place", p)]⟩ = pure [(("self" : Str), Value.ref x), ("place", p), ("reason", r)]) :
    KindR prog w K mg C := by
  have O : OexC K C := oex_of r o
  obtain ⟨rd, no, kC⟩ := readC_of M o
  simp only [okI, Bool.and_eq_true, beq_iff_eq] at i
  obtain ⟨i1, i2, i3, i4, i5, i6, i7⟩ := i
  simp only [okR, Bool.and_eq_true, beq_iff_eq] at o2
  obtain ⟨o3, o4, o5⟩ := o2
  obtain ⟨oc, od, osl, kV, doc, pm, an, ct, efd, lk⟩ := id T.lk
  refine ⟨gC, kC, fun base m p r => ?_, fun base m p r => ?_, rd, no, o5⟩
  · exact makes_of O m.kin i1 i2 (by rw [sizeLine_eq]; show 2 ≤ _; omega) fun A R s x t0 kb hx hnx room fin =>
      initR T TX (M.mod m) O (up base (M.mod m) O) kb hx hnx i3 i7 o3 o4 o5 line (by omega) (by rw [efd]; exact .of_eq (hb _ _ _ _ _ x p r)) fin
  · exact makes_of O m.kin i1 i2 (by rw [sizeLine_eq]; show 0 ≤ _; omega) fun A R s x t0 kb hx hnx room fin =>
      initR T TX (M.mod m) O (up base (M.mod m) O) kb hx hnx i3 i7 o3 o4 o5 line (by omega) (by rw [efd]; exact .of_eq (hk _ _ _ _ _ x p r)) fin
/-- NoPaper -/
structure Kind0 (K : Frag) (mg : Str → Option Value) (C : Addr) : Prop where
  gC : mg "NoPaper" = some (.ref C)
  kC : keepIn K (.ref C) = true
  ex : excIn K C [.type "ValueError", .type "Exception", .type "BaseException", .type "object"] "ValueError.__new__" = true
  rd : ReadC K C
end
end K86

set_option Elab.async false
set_option linter.all false
set_option maxRecDepth 100000
set_option maxHeartbeats 4000000
namespace K86
open PySem PySem.Spec PyProof.Rows L2
def top (i : Nat) : Stmt := PySem.Challenge.pw_withinlimits_k86_errors_told.main.body.getD i (.Pass ⟨0, 0, 0, 0⟩)
abbrev sPool : Stmt := top 15
abbrev sTake : Stmt := top 16
abbrev sThings : Stmt := top 17
abbrev sPos : Stmt := top 18
abbrev sName : Stmt := top 19
abbrev sFields : Stmt := top 20
abbrev sClasses : Stmt := top 21
abbrev sKinds : Stmt := top 22
abbrev sLaw : Stmt := top 23
/-- the built-ins' names are the module's own nowhere -/
structure Names (mg : Str → Option Value) : Prop where
  len : mg "len" = none
  abs : mg "abs" = none
  int : mg "int" = none
  isi : mg "isinstance" = none
  ve : mg "ValueError" = none
  range : mg "range" = none
  enum : mg "enumerate" = none
  zip : mg "zip" = none
  repr : mg "repr" = none
  max : mg "max" = none
  min : mg "min" = none
section
variable {P : Program} {w : World} {K : PySem.W.Frag} {mg : Str → Option Value} {base : Heap}
/-! ### the pool -/
def spPool (K : PySem.W.Frag) : Sp := fun vs H Q _ => ∃ (a : Addr) (ns : List Int) (k : Int), vs = [.ref a, .int k] ∧ SqL K H a (ns.map V.int) ∧ 0 ≤ k ∧ k ≤ 3 ∧
  ∀ (p : Addr) (H' : Hp) (x y : Int), Same H H' → H p = none → H' p = some (.lst [.int x, .int y]) → 0 ≤ x → 0 ≤ y → y < 2147483647 → Q (.ref p) H'
theorem scPool : FnScope ["script", "k", "cell", "size", "seed"] ["script", "k"] (defScope sPool) := ⟨rfl, rfl, rfl, by decide +kernel, rfl, by decide +kernel, by decide +kernel⟩
theorem pow18 : (0 : Int) ≤ 18 ∧ (18 : Int) ≤ 1000000 ∧ (10 : Int).natAbs < 2 ^ 64 := by decide
/-- the pool's reckoning from its size on -/
theorem pool_end {a : Addr} {k c : Int} {H : Hp} {Q : VK} (hk0 : 0 ≤ k) (hk3 : k ≤ 3)
    (fin : ∀ (p : Addr) (H' : Hp) (x y : Int), Same H H' → H p = none → H' p = some (.lst [.int x, .int y]) → 0 ≤ x → 0 ≤ y → y < 2147483647 → Q (.ref p) H') {c4 : Option V} :
    tSeq (tAsg (tOp (rI (fun _ j => 0 < j) fun i j => V.int (i % j)) (tOp (rI CMul fun i j => V.int (i * j)) (tOp (rI0 fun i j => V.int (i + j)) (tOp (rI0 fun i j => V.int (i + j))
      (tOp (rI (fun _ j => 0 < j) fun i j => V.int (i % j)) (tVar 3) (tC (V.int 2147483629))) (tOp (rI CMul fun i j => V.int (i * j)) (tC (V.int 7919)) (tVar 1))) (tC (V.int 31))) (tC (V.int 48271))) (tC (V.int 2147483647))) (gName 4))
      (tRet (tLst (tCons (tOp (rI CMul fun i j => V.int (i * j)) (tVar 3) (tCB (fun xs H Q => (∃ i, xs = [V.int i] ∧ Q (V.int i) H) ∨ ∃ k, xs = [V.bl k] ∧ Q (V.int (if k = true then 1 else 0)) H)
        (tCons (tOp (rI0 fun i j => V.bl (decide (j ≤ i))) (tVar 3) (tOp (rI CPow fun i j => V.int (i ^ j.toNat)) (tC (V.int 10)) (tC (V.int 18)))) tNil))) (tCons (tVar 4) tNil))))
      { nx := fun _ H' => Q V.non H', rt := Q } [some (.ref a), some (.int k), some (.int c), some (.int (if c < 0 then -c else c)), c4] H := by
  obtain ⟨z, hz, h0⟩ : ∃ z : Int, z = (if c < 0 then -c else c) ∧ 0 ≤ z := ⟨_, rfl, by split <;> omega⟩
  rw [← hz]
  refine ⟨_, rfl, _, _, rfl, rfl, (by show (0 : Int) < 2147483629; decide), _, rfl, _, _, rfl, rfl, .inl (by decide), _, _, rfl, rfl, _, _, rfl, rfl, _, _, rfl, rfl, .inr (by decide), _, _, rfl, rfl, (by show (0 : Int) < 2147483647; decide), ?_⟩
  refine ⟨_, rfl, _, rfl, _, _, rfl, rfl, pow18, _, _, rfl, rfl, .inr ⟨_, rfl, _, _, rfl, rfl, .inr ?_, _, rfl, (by show 2 ≤ sizeLine; decide), fun p hp => ?_⟩⟩
  · split <;> decide
  · refine fin p _ _ _ (fun b o e => ?_) hp upd_same ?_ ?_ ?_
    · rw [upd_ne (ne_of_none e hp)]
      exact e
    · split <;> omega
    · exact Int.emod_nonneg _ (by decide)
    · exact Int.emod_lt_of_pos _ (by decide)
theorem ok_pool {f : Addr} {fd : FuncData} (F : Fun K "_law_pool" "_law_pool" sPool f fd) (T : Names mg) : FnOk P w K mg base CX0 1 f fd ["script", "k"] (spPool K) := by
  refine F.ok scPool (fun vs H Q E h => ?_) (fun cdv A outer s H vs Q E hr h => ?_)
  · obtain ⟨a, ns, k, rfl, _⟩ := h
    rfl
  · obtain ⟨a, ns, k, rfl, hS, hk0, hk3, fin⟩ := h
    refine ⟨_, pss_cons (ps_set (i := 2) scPool.nd rfl (Or.inl rfl) pe_int)
      (pss_cons (ps_if (pt_cmpR op_lt (pv 1) (pe_callB call_len_seq (by rfl) T.len PySem.boot_len (pa_cons (pv 0) pa_nil)) (nomark _))
        (pss_one (ps_set (i := 2) scPool.nd rfl (Or.inl rfl) (pe_ix ix_list (pv 0) (pv 1) (fun _ _ => rfl)))) pss_nil)
      (pss_cons (ps_set (i := 3) scPool.nd rfl (Or.inl rfl) (pe_callB call_abs (by rfl) T.abs (by decide +kernel) (pa_cons (pv 2) pa_nil)))
      (pss_cons (ps_set (i := 4) scPool.nd rfl (Or.inl rfl) (pe_op op_mod (pe_op op_mul (pe_op op_add (pe_op op_add (pe_op op_mod (pv 3) pe_int) (pe_op op_mul pe_int (pv 1))) pe_int) pe_int) pe_int))
      (pss_one (ps_ret (pe_lst (pa_cons (pe_op op_mul (pv 3) (pe_callTy call_int1 (by rfl) T.int (by decide +kernel) (pa_cons (pe_cmpR op_ge (pv 3) (pe_op op_pow pe_int pe_int) (nomark _)) pa_nil))) (pa_cons (pv 4) pa_nil)))))))), ?_⟩
    refine ⟨_, rfl, _, rfl, a, _, rfl, .inl hS, _, _, rfl, rfl, _, rfl, ?_⟩
    refine ite2 (fun hlt => ?_) (fun hge => ?_)
    · obtain ⟨z, hz⟩ : ∃ z : Int, (ns.map V.int)[k.toNat]? = some (V.int z) := by
        have hl : k.toNat < ns.length := by
          have y : k < ((ns.map V.int).length : Int) := by simpa using hlt
          rw [List.length_map] at y
          omega
        exact ⟨ns[k.toNat], by rw [List.getElem?_map, List.getElem?_eq_getElem hl]; rfl⟩
      refine ⟨_, rfl, _, rfl, a, _, _, V.int z, rfl, rfl, hS, (by have y := atI_nat hz; rwa [Int.toNat_of_nonneg hk0] at y), ?_⟩
      refine ⟨_, rfl, _, rfl, ?_⟩
      exact pool_end hk0 hk3 fin
    · refine ⟨_, rfl, _, rfl, ?_⟩
      exact pool_end hk0 hk3 fin
end
end K86

set_option Elab.async false
set_option linter.all false
set_option maxRecDepth 100000
set_option maxHeartbeats 4000000
namespace K86
open PySem PySem.Spec PyProof.Rows L2
section
variable {P : Program} {w : World} {K : PySem.W.Frag} {mg : Str → Option Value} {base : Heap}
/-! ### a draw -/
/-- a pool stands at p -/
def Pool (H : Hp) (p : Addr) : Prop := ∃ x y : Int, H p = some (.lst [.int x, .int y]) ∧ 0 ≤ x ∧ 0 ≤ y ∧ y < 2147483647
def spTake : Sp := fun vs H Q _ => ∃ (p : Addr) (m : Int), vs = [.ref p, .int m] ∧ Pool H p ∧ 1 ≤ m ∧ m ≤ 6 ∧
  ∀ (H' : Hp) (r : Int), (∀ b o, H b = some o → b ≠ p → H' b = some o) → (∀ b, H b = none → H' b = none) → Pool H' p → 0 ≤ r → r < m → Q (.int r) H'
theorem scTake : FnScope ["pool", "many", "found"] ["pool", "many"] (defScope sTake) := ⟨rfl, rfl, rfl, by decide +kernel, rfl, by decide +kernel, by decide +kernel⟩
theorem ok_take {f : Addr} {fd : FuncData} (F : Fun K "_law_take" "_law_take" sTake f fd) : FnOk P w K mg base CX0 1 f fd ["pool", "many"] spTake := by
  refine F.ok scTake (fun vs H Q E h => ?_) (fun cdv A outer s H vs Q E hr h => ?_)
  · obtain ⟨p, m, rfl, _⟩ := h
    rfl
  · obtain ⟨p, m, rfl, ⟨x, y, hp, hx, hy, hy'⟩, hm1, hm6, fin⟩ := h
    refine ⟨_, pss_cons (ps_if (pt_cmpR op_gt (pe_ix ix_list (pv 0) pe_int (fun _ _ => rfl)) pe_int (nomark _))
        (pss_cons (ps_set (i := 2) scTake.nd rfl (Or.inl rfl) (pe_op op_mod (pe_ix ix_list (pv 0) pe_int (fun _ _ => rfl)) (pv 1)))
        (pss_cons (ps_asg (pe_op op_fdiv (pe_ix ix_list (pv 0) pe_int (fun _ _ => rfl)) (pv 1)) (pg_sub (pv 0) pe_int set_list))
        (pss_one (ps_ret (pv 2))))) pss_nil)
      (pss_cons (ps_asg (pe_op op_mod (pe_op op_add (pe_op op_mul (pe_ix ix_list (pv 0) pe_int (fun _ _ => rfl)) pe_int) pe_int) pe_int) (pg_sub (pv 0) pe_int set_list))
      (pss_one (ps_ret (pe_op op_mod (pe_op op_fdiv (pe_op op_mod (pe_op op_mul (pe_ix ix_list (pv 0) pe_int (fun _ _ => rfl)) (pe_ix ix_list (pv 0) pe_int (fun _ _ => rfl))) pe_int) pe_int) (pv 1))))), ?_⟩
    refine ⟨_, rfl, p, _, _, _, rfl, rfl, SqL.of hp, rfl, _, _, rfl, rfl, _, rfl, ?_⟩
    refine ite2 (fun _ => ?_) (fun _ => ?_)
    · refine ⟨_, rfl, p, _, _, _, rfl, rfl, SqL.of hp, rfl, _, rfl, _, _, rfl, rfl, ?_, _, rfl, p, _, _, _, rfl, rfl, SqL.of hp, rfl, _, rfl, _, _, rfl, rfl, ?_, ?_⟩
      · show (0 : Int) < m
        omega
      · show (0 : Int) < m ∧ m < 1073741824
        omega
      · refine ⟨_, rfl, p, _, _, 0, rfl, rfl, hp, rfl, ?_⟩
        refine ⟨_, rfl, ?_⟩
        refine fin _ _ (fun b o e ne => by rw [upd_ne ne]; exact e) (fun b e => by rw [upd_ne (fun z => by rw [z, hp] at e; cases e)]; exact e) ⟨x / m, y, upd_same, Int.ediv_nonneg hx (by omega), hy, hy'⟩ (Int.emod_nonneg _ (by omega)) (Int.emod_lt_of_pos _ (by omega))
    · refine ⟨_, rfl, p, _, _, _, rfl, rfl, SqL.of hp, rfl, _, _, rfl, rfl, .inr (by decide), _, _, rfl, rfl, _, _, rfl, rfl, (by show (0 : Int) < 2147483647; decide), ?_⟩
      have b0 : 0 ≤ (y * 48271 + 11) % 2147483647 := Int.emod_nonneg _ (by decide)
      have b1 : (y * 48271 + 11) % 2147483647 < 2147483647 := Int.emod_lt_of_pos _ (by decide)
      obtain ⟨z, hz⟩ : ∃ z, z = (y * 48271 + 11) % 2147483647 := ⟨_, rfl⟩
      rw [← hz] at b0 b1
      refine ⟨_, rfl, p, _, _, 1, rfl, rfl, hp, rfl, ?_⟩
      have hp2 : upd H p (.lst [.int x, .int ((y * 48271 + 11) % 2147483647)]) p = some (.lst [.int x, .int z]) := by rw [← hz]; exact upd_same
      refine ⟨_, rfl, p, _, _, .int z, rfl, rfl, SqL.of hp2, rfl, _, rfl, p, _, _, .int z, rfl, rfl, SqL.of hp2, rfl, _, _, rfl, rfl, .inl ⟨by omega, by omega⟩, _, _, rfl, rfl, (by show (0 : Int) < 2147483629; decide), _, _, rfl, rfl, (by show (0 : Int) < 64 ∧ (64 : Int) < 1073741824; decide), _, rfl, _, _, rfl, rfl, (by show (0 : Int) < m; omega), ?_⟩
      refine fin _ _ (fun b o e ne => by rw [upd_ne ne]; exact e) (fun b e => by rw [upd_ne (fun z => by rw [z, hp] at e; cases e)]; exact e) ⟨x, z, hp2, hx, b0, b1⟩ (Int.emod_nonneg _ (by omega)) (Int.emod_lt_of_pos _ (by omega))
end
end K86

set_option Elab.async false
set_option linter.all false
set_option maxRecDepth 100000
set_option maxHeartbeats 4000000
namespace K86
open PySem PySem.Spec PyProof.Rows L2
/-! ### the things that errors are made of -/
def But (p : Addr) (H H' : Hp) : Prop := ∀ b o, H b = some o → b ≠ p → H' b = some o
theorem But.trans {p : Addr} {H H1 H2 : Hp} (a : But p H H1) (b : But p H1 H2) : But p H H2 := fun c o e n => b c o (a c o e n) n
theorem But.upd {p l : Addr} {H : Hp} {o : HO} (n : H l = none) : But p H (upd H l o) := fun c u e _ => by rw [upd_ne (ne_of_none e n)]; exact e
theorem But.of {p : Addr} {H H' : Hp} (s : Same H H') : But p H H' := fun c o e _ => s c o e
theorem Pool.same {p : Addr} {H H' : Hp} (P : Pool H p) (s : Same H H') : Pool H' p := by
  obtain ⟨x, y, e, r⟩ := P
  exact ⟨x, y, s _ _ e, r⟩
theorem Pool.upd {p l : Addr} {H : Hp} {o : HO} (P : Pool H p) (n : H l = none) : Pool (upd H l o) p := P.same fun c u e => by rw [upd_ne (ne_of_none e n)]; exact e
theorem But.free {p l : Addr} {H H' : Hp} (a : But p H H') (P : Pool H' p) (n : H' l = none) : H l = none := by
  cases q : H l with
  | none => rfl
  | some o =>
    by_cases e : l = p
    · obtain ⟨x, y, z, _⟩ := P
      rw [e, z] at n
      cases n
    · rw [a l o q e] at n
      cases n
theorem Pool.ne {p l : Addr} {H : Hp} {xs : List V} (P : Pool H p) (h : H l = some (.tup xs)) : l ≠ p := fun e => by
  obtain ⟨x, y, z, _⟩ := P
  rw [e, z] at h
  cases h
theorem Pool.nn {p l : Addr} {H : Hp} (P : Pool H p) (n : H l = none) : l ≠ p := fun e => by
  obtain ⟨x, y, z, _⟩ := P
  rw [e, z] at n
  cases n
/-- an item at a place within -/
theorem atI_in {xs : List V} {r : Int} (h0 : 0 ≤ r) (h1 : r < (xs.length : Int)) : ∃ v, v ∈ xs ∧ atI xs r = some v := by
  have hl : r.toNat < xs.length := by omega
  have e : atI xs (r.toNat : Int) = some xs[r.toNat] := atI_nat (List.getElem?_eq_getElem hl)
  rw [Int.toNat_of_nonneg h0] at e
  exact ⟨_, List.getElem_mem hl, e⟩
abbrev theInts : List Int := [0, 1, 3, 5, 7, 30]
abbrev theWords : List Str := ["start", "period", "number", "sites", "word", "value", "short", "nested", "exact", "past", "most"]
/-- a thing of the menus, with what it is as data -/
inductive Good (H : Hp) : V → PyData → Prop
  | non : Good H .non .none
  | int (i : Int) (h : i ∈ theInts) : Good H (.int i) (.int i)
  | str (x : Str) (h : x ∈ theWords) : Good H (.str x) (.str x)
  | w0 (a : Addr) (h : H a = some (.tup [.int 0, .int 1])) : Good H (.ref a) (.tuple [.int 0, .int 1])
  | w1 (a : Addr) (h : H a = some (.tup [])) : Good H (.ref a) (.tuple [])
  | w2 (a : Addr) (h : H a = some (.tup [.int 2])) : Good H (.ref a) (.tuple [.int 2])
  | lk (a b : Addr) (h : H a = some (.tup [.str "look", .ref b])) (h2 : H b = some (.tup [])) : Good H (.ref a) (.tuple [.str "look", .tuple []])
theorem Good.tups {H H' : Hp} {v : V} {d : PyData} (g : Good H v d) (k : ∀ b xs, H b = some (.tup xs) → H' b = some (.tup xs)) : Good H' v d := by
  cases g with
  | non => exact .non
  | int i h => exact .int i h
  | str x h => exact .str x h
  | w0 a h => exact .w0 a (k _ _ h)
  | w1 a h => exact .w1 a (k _ _ h)
  | w2 a h => exact .w2 a (k _ _ h)
  | lk a b h h2 => exact .lk a b (k _ _ h) (k _ _ h2)
theorem Good.same {H H' : Hp} {v : V} {d : PyData} (g : Good H v d) (s : Same H H') : Good H' v d := g.tups fun b xs e => s _ _ e
theorem Good.but {p : Addr} {H H' : Hp} {v : V} {d : PyData} (g : Good H v d) (P : Pool H p) (s : But p H H') : Good H' v d := g.tups fun b xs e => s _ _ e (P.ne e)
theorem Good.dp {K : PySem.W.Frag} {H : Hp} {v : V} {d : PyData} (g : Good H v d) : Dp K H v d := by
  cases g with
  | non => exact .non
  | int i h => exact .int i
  | str x h => exact .str x
  | w0 a h => exact .tup (SqT.of h) (.cons (.int 0) (.cons (.int 1) .nil))
  | w1 a h => exact .tup (SqT.of h) .nil
  | w2 a h => exact .tup (SqT.of h) (.cons (.int 2) .nil)
  | lk a b h h2 => exact .tup (SqT.of h) (.cons (.str _) (.cons (.tup (SqT.of h2) .nil) .nil))
def Small (d : PyData) : Prop := d.showable = true ∧ d.hasDict = false ∧ d.depth ≤ 3 ∧ d.shown.length ≤ 40
theorem small_int : ∀ i ∈ theInts, Small (.int i) := by
  intro i h
  simp only [theInts, List.mem_cons, List.not_mem_nil, or_false] at h
  rcases h with rfl | rfl | rfl | rfl | rfl | rfl <;> exact ⟨by decide +kernel, by decide +kernel, by decide +kernel, by decide +kernel⟩
theorem small_str : ∀ x ∈ theWords, Small (.str x) := by
  intro x h
  simp only [theWords, List.mem_cons, List.not_mem_nil, or_false] at h
  rcases h with rfl | rfl | rfl | rfl | rfl | rfl | rfl | rfl | rfl | rfl | rfl <;> exact ⟨by decide +kernel, by decide +kernel, by decide +kernel, by decide +kernel⟩
theorem Good.small {H : Hp} {v : V} {d : PyData} (g : Good H v d) : Small d := by
  cases g with
  | non => exact ⟨by decide +kernel, by decide +kernel, by decide +kernel, by decide +kernel⟩
  | int i h => exact small_int i h
  | str x h => exact small_str x h
  | w0 a h => exact ⟨by decide +kernel, by decide +kernel, by decide +kernel, by decide +kernel⟩
  | w1 a h => exact ⟨by decide +kernel, by decide +kernel, by decide +kernel, by decide +kernel⟩
  | w2 a h => exact ⟨by decide +kernel, by decide +kernel, by decide +kernel, by decide +kernel⟩
  | lk a b h h2 => exact ⟨by decide +kernel, by decide +kernel, by decide +kernel, by decide +kernel⟩
/-- nine things in a list -/
structure Lot (H : Hp) (q : Addr) (xs : List V) (ds : List PyData) : Prop where
  at_ : H q = some (.lst xs)
  nine : xs.length = 9
  good : Paired (Good H) xs ds
section
variable {P : Program} {w : World} {K : PySem.W.Frag} {mg : Str → Option Value} {base : Heap}
def spThings : Sp := fun vs H Q _ => ∃ (p : Addr), vs = [.ref p] ∧ Pool H p ∧ ∀ (q : Addr) (H' : Hp) (xs : List V) (ds : List PyData), But p H H' → Pool H' p → H q = none → Lot H' q xs ds → Q (.ref q) H'
abbrev nThings : List Str := ["pool", "way", "cell_at", "word", "row_at", "thing", "spot", "why_now"]
theorem scThings : FnScope nThings ["pool"] (defScope sThings) := ⟨rfl, rfl, rfl, by decide +kernel, rfl, by decide +kernel, by decide +kernel⟩
theorem ok_things {f fT : Addr} {fd fdT : FuncData} (F : Fun K "_law_things" "_law_things" sThings f fd) (FT : Fun K "_law_take" "_law_take" sTake fT fdT) (bT : Binds K fdT ["pool", "many"] []) (mT : mg "_law_take" = some (.ref fT)) :
    FnOk P w K mg base CX0 2 f fd ["pool"] spThings := by
  have GT : FnOk P w K mg base CX0 1 fT fdT ["pool", "many"] spTake := ok_take FT
  refine F.ok scThings (fun vs H Q E h => ?_) (fun cdv A outer s H vs Q E hr h => ?_)
  · obtain ⟨p, rfl, _⟩ := h
    rfl
  · obtain ⟨p, rfl, P0, fin⟩ := h
    refine ⟨_, pss_cons (ps_par (i := 1) (j := 2) (by rfl) scThings.nd rfl rfl (by decide) rfl rfl (pa_cons
          (pe_ix ix_list (pe_lst (pa_cons (pe_tup (pa_cons pe_int (pa_cons pe_int pa_nil))) (pa_cons (pe_tup pa_nil) (pa_cons (pe_tup (pa_cons pe_int pa_nil)) pa_nil)))) (pe_call GT hr rfl mT FT.kp bT .nil pass0 (pa_cons (pv 0) (pa_cons pe_int pa_nil))) (fun _ _ => rfl))
          (pa_cons (pe_ix ix_list (pe_lst (pa_cons pe_non (pa_cons pe_int (pa_cons pe_int pa_nil)))) (pe_call GT hr rfl mT FT.kp bT .nil pass0 (pa_cons (pv 0) (pa_cons pe_int pa_nil))) (fun _ _ => rfl)) pa_nil)) (by rfl))
      (pss_cons (ps_par (i := 3) (j := 4) (by rfl) scThings.nd rfl rfl (by decide) rfl rfl (pa_cons
          (pe_ix ix_list (pe_lst (pa_cons pe_str (pa_cons pe_str (pa_cons pe_str pa_nil)))) (pe_call GT hr rfl mT FT.kp bT .nil pass0 (pa_cons (pv 0) (pa_cons pe_int pa_nil))) (fun _ _ => rfl))
          (pa_cons (pe_ix ix_list (pe_lst (pa_cons pe_non (pa_cons pe_int (pa_cons pe_int pa_nil)))) (pe_call GT hr rfl mT FT.kp bT .nil pass0 (pa_cons (pv 0) (pa_cons pe_int pa_nil))) (fun _ _ => rfl)) pa_nil)) (by rfl))
      (pss_cons (ps_par (i := 5) (j := 6) (by rfl) scThings.nd rfl rfl (by decide) rfl rfl (pa_cons
          (pe_ix ix_list (pe_lst (pa_cons pe_non (pa_cons pe_int (pa_cons pe_str (pa_cons (pe_tup (pa_cons pe_str (pa_cons (pe_tup pa_nil) pa_nil))) pa_nil))))) (pe_call GT hr rfl mT FT.kp bT .nil pass0 (pa_cons (pv 0) (pa_cons pe_int pa_nil))) (fun _ _ => rfl))
          (pa_cons (pe_ix ix_list (pe_lst (pa_cons pe_int (pa_cons pe_int (pa_cons pe_int pa_nil)))) (pe_call GT hr rfl mT FT.kp bT .nil pass0 (pa_cons (pv 0) (pa_cons pe_int pa_nil))) (fun _ _ => rfl)) pa_nil)) (by rfl))
      (pss_cons (ps_set (i := 7) scThings.nd rfl (Or.inl rfl) (pe_ix ix_list (pe_lst (pa_cons pe_str (pa_cons pe_str (pa_cons pe_str (pa_cons pe_str (pa_cons pe_str (pa_cons pe_str pa_nil))))))) (pe_call GT hr rfl mT FT.kp bT .nil pass0 (pa_cons (pv 0) (pa_cons pe_int pa_nil))) (fun _ _ => rfl)))
      (pss_one (ps_ret (pe_lst (pa_cons (pv 1) (pa_cons (pv 2) (pa_cons (pv 3) (pa_cons (pv 4) (pa_cons (pv 5)
        (pa_cons (pe_ix ix_list (pe_lst (pa_cons pe_str (pa_cons pe_str (pa_cons pe_str pa_nil)))) (pe_call GT hr rfl mT FT.kp bT .nil pass0 (pa_cons (pv 0) (pa_cons pe_int pa_nil))) (fun _ _ => rfl))
        (pa_cons (pv 5) (pa_cons (pv 6) (pa_cons (pv 7) pa_nil))))))))))))))), ?_⟩
    refine ⟨(by rw [sizeLine_eq]; show 2 ≤ _; omega), fun t1_0 n1_0 => ?_⟩
    refine ⟨(by rw [sizeLine_eq]; show 0 ≤ _; omega), fun t1_1 n1_1 => ?_⟩
    refine ⟨(by rw [sizeLine_eq]; show 1 ≤ _; omega), fun t1_2 n1_2 => ?_⟩
    refine ⟨(by rw [sizeLine_eq]; show 3 ≤ _; omega), fun l1 nl1 => ?_⟩
    refine ⟨_, rfl, p, 3, rfl, ((((P0.upd n1_0).upd n1_1).upd n1_2).upd nl1), by decide, by decide, fun H1 r1 k1 f1 P1 z1 y1 => ?_⟩
    obtain ⟨v1, m1, e1⟩ := atI_in (xs := ([.ref t1_0, .ref t1_1, .ref t1_2] : List V)) z1 y1
    refine ⟨l1, _, _, v1, rfl, rfl, SqL.of (k1 l1 _ upd_same (fun e => by obtain ⟨_, _, q, _⟩ := (((P0.upd n1_0).upd n1_1).upd n1_2); rw [← e, nl1] at q; cases q)), e1, ?_⟩
    have B1 : But p H H1 := (((((But.upd n1_0).trans (But.upd n1_1)).trans (But.upd n1_2)).trans (But.upd nl1)).trans k1)
    have at1_0 : H1 t1_0 = some (.tup [.int 0, .int 1]) := ((((But.upd n1_1).trans (But.upd n1_2)).trans (But.upd nl1)).trans k1) t1_0 _ upd_same (Pool.nn P0 n1_0)
    have at1_1 : H1 t1_1 = some (.tup []) := (((But.upd n1_2).trans (But.upd nl1)).trans k1) t1_1 _ upd_same (Pool.nn (P0.upd n1_0) n1_1)
    have at1_2 : H1 t1_2 = some (.tup [.int 2]) := ((But.upd nl1).trans k1) t1_2 _ upd_same (Pool.nn ((P0.upd n1_0).upd n1_1) n1_2)
    have g1 : ∃ d, Good H1 v1 d := by
      simp only [List.mem_cons, List.not_mem_nil, or_false] at m1
      rcases m1 with rfl | rfl | rfl
      · exact ⟨_, .w0 _ at1_0⟩
      · exact ⟨_, .w1 _ at1_1⟩
      · exact ⟨_, .w2 _ at1_2⟩
    refine ⟨(by rw [sizeLine_eq]; show 3 ≤ _; omega), fun l2 nl2 => ?_⟩
    refine ⟨_, rfl, p, 3, rfl, (P1.upd nl2), by decide, by decide, fun H2 r2 k2 f2 P2 z2 y2 => ?_⟩
    obtain ⟨v2, m2, e2⟩ := atI_in (xs := ([.non, .int 0, .int 3] : List V)) z2 y2
    refine ⟨l2, _, _, v2, rfl, rfl, SqL.of (k2 l2 _ upd_same (fun e => by obtain ⟨_, _, q, _⟩ := P1; rw [← e, nl2] at q; cases q)), e2, ?_⟩
    have B2 : But p H1 H2 := ((But.upd nl2).trans k2)
    have g2 : ∃ d, Good H2 v2 d := by
      simp only [List.mem_cons, List.not_mem_nil, or_false] at m2
      rcases m2 with rfl | rfl | rfl
      · exact ⟨_, .non⟩
      · exact ⟨_, .int _ (by decide)⟩
      · exact ⟨_, .int _ (by decide)⟩
    refine ⟨_, _, rfl, ?_⟩
    refine ⟨(by rw [sizeLine_eq]; show 3 ≤ _; omega), fun l3 nl3 => ?_⟩
    refine ⟨_, rfl, p, 3, rfl, (P2.upd nl3), by decide, by decide, fun H3 r3 k3 f3 P3 z3 y3 => ?_⟩
    obtain ⟨v3, m3, e3⟩ := atI_in (xs := ([.str "start", .str "period", .str "number"] : List V)) z3 y3
    refine ⟨l3, _, _, v3, rfl, rfl, SqL.of (k3 l3 _ upd_same (fun e => by obtain ⟨_, _, q, _⟩ := P2; rw [← e, nl3] at q; cases q)), e3, ?_⟩
    have B3 : But p H2 H3 := ((But.upd nl3).trans k3)
    have g3 : ∃ d, Good H3 v3 d := by
      simp only [List.mem_cons, List.not_mem_nil, or_false] at m3
      rcases m3 with rfl | rfl | rfl
      · exact ⟨_, .str _ (by decide)⟩
      · exact ⟨_, .str _ (by decide)⟩
      · exact ⟨_, .str _ (by decide)⟩
    refine ⟨(by rw [sizeLine_eq]; show 3 ≤ _; omega), fun l4 nl4 => ?_⟩
    refine ⟨_, rfl, p, 3, rfl, (P3.upd nl4), by decide, by decide, fun H4 r4 k4 f4 P4 z4 y4 => ?_⟩
    obtain ⟨v4, m4, e4⟩ := atI_in (xs := ([.non, .int 0, .int 7] : List V)) z4 y4
    refine ⟨l4, _, _, v4, rfl, rfl, SqL.of (k4 l4 _ upd_same (fun e => by obtain ⟨_, _, q, _⟩ := P3; rw [← e, nl4] at q; cases q)), e4, ?_⟩
    have B4 : But p H3 H4 := ((But.upd nl4).trans k4)
    have g4 : ∃ d, Good H4 v4 d := by
      simp only [List.mem_cons, List.not_mem_nil, or_false] at m4
      rcases m4 with rfl | rfl | rfl
      · exact ⟨_, .non⟩
      · exact ⟨_, .int _ (by decide)⟩
      · exact ⟨_, .int _ (by decide)⟩
    refine ⟨_, _, rfl, ?_⟩
    refine ⟨(by rw [sizeLine_eq]; show 0 ≤ _; omega), fun t5_0 n5_0 => ?_⟩
    refine ⟨(by rw [sizeLine_eq]; show 2 ≤ _; omega), fun t5_1 n5_1 => ?_⟩
    refine ⟨(by rw [sizeLine_eq]; show 4 ≤ _; omega), fun l5 nl5 => ?_⟩
    refine ⟨_, rfl, p, 4, rfl, (((P4.upd n5_0).upd n5_1).upd nl5), by decide, by decide, fun H5 r5 k5 f5 P5 z5 y5 => ?_⟩
    obtain ⟨v5, m5, e5⟩ := atI_in (xs := ([.non, .int 5, .str "word", .ref t5_1] : List V)) z5 y5
    refine ⟨l5, _, _, v5, rfl, rfl, SqL.of (k5 l5 _ upd_same (fun e => by obtain ⟨_, _, q, _⟩ := ((P4.upd n5_0).upd n5_1); rw [← e, nl5] at q; cases q)), e5, ?_⟩
    have B5 : But p H4 H5 := ((((But.upd n5_0).trans (But.upd n5_1)).trans (But.upd nl5)).trans k5)
    have at5_0 : H5 t5_0 = some (.tup []) := (((But.upd n5_1).trans (But.upd nl5)).trans k5) t5_0 _ upd_same (Pool.nn P4 n5_0)
    have at5_1 : H5 t5_1 = some (.tup [.str "look", .ref t5_0]) := ((But.upd nl5).trans k5) t5_1 _ upd_same (Pool.nn (P4.upd n5_0) n5_1)
    have g5 : ∃ d, Good H5 v5 d := by
      simp only [List.mem_cons, List.not_mem_nil, or_false] at m5
      rcases m5 with rfl | rfl | rfl | rfl
      · exact ⟨_, .non⟩
      · exact ⟨_, .int _ (by decide)⟩
      · exact ⟨_, .str _ (by decide)⟩
      · exact ⟨_, .lk _ _ at5_1 at5_0⟩
    refine ⟨(by rw [sizeLine_eq]; show 3 ≤ _; omega), fun l6 nl6 => ?_⟩
    refine ⟨_, rfl, p, 3, rfl, (P5.upd nl6), by decide, by decide, fun H6 r6 k6 f6 P6 z6 y6 => ?_⟩
    obtain ⟨v6, m6, e6⟩ := atI_in (xs := ([.int 0, .int 1, .int 30] : List V)) z6 y6
    refine ⟨l6, _, _, v6, rfl, rfl, SqL.of (k6 l6 _ upd_same (fun e => by obtain ⟨_, _, q, _⟩ := P5; rw [← e, nl6] at q; cases q)), e6, ?_⟩
    have B6 : But p H5 H6 := ((But.upd nl6).trans k6)
    have g6 : ∃ d, Good H6 v6 d := by
      simp only [List.mem_cons, List.not_mem_nil, or_false] at m6
      rcases m6 with rfl | rfl | rfl
      · exact ⟨_, .int _ (by decide)⟩
      · exact ⟨_, .int _ (by decide)⟩
      · exact ⟨_, .int _ (by decide)⟩
    refine ⟨_, _, rfl, ?_⟩
    refine ⟨(by rw [sizeLine_eq]; show 6 ≤ _; omega), fun l7 nl7 => ?_⟩
    refine ⟨_, rfl, p, 6, rfl, (P6.upd nl7), by decide, by decide, fun H7 r7 k7 f7 P7 z7 y7 => ?_⟩
    obtain ⟨v7, m7, e7⟩ := atI_in (xs := ([.str "value", .str "short", .str "nested", .str "exact", .str "past", .str "most"] : List V)) z7 y7
    refine ⟨l7, _, _, v7, rfl, rfl, SqL.of (k7 l7 _ upd_same (fun e => by obtain ⟨_, _, q, _⟩ := P6; rw [← e, nl7] at q; cases q)), e7, ?_⟩
    have B7 : But p H6 H7 := ((But.upd nl7).trans k7)
    have g7 : ∃ d, Good H7 v7 d := by
      simp only [List.mem_cons, List.not_mem_nil, or_false] at m7
      rcases m7 with rfl | rfl | rfl | rfl | rfl | rfl
      · exact ⟨_, .str _ (by decide)⟩
      · exact ⟨_, .str _ (by decide)⟩
      · exact ⟨_, .str _ (by decide)⟩
      · exact ⟨_, .str _ (by decide)⟩
      · exact ⟨_, .str _ (by decide)⟩
      · exact ⟨_, .str _ (by decide)⟩
    refine ⟨_, rfl, _, rfl, _, rfl, _, rfl, _, rfl, ?_⟩
    refine ⟨(by rw [sizeLine_eq]; show 3 ≤ _; omega), fun l8 nl8 => ?_⟩
    refine ⟨_, rfl, p, 3, rfl, (P7.upd nl8), by decide, by decide, fun H8 r8 k8 f8 P8 z8 y8 => ?_⟩
    obtain ⟨v8, m8, e8⟩ := atI_in (xs := ([.str "start", .str "period", .str "sites"] : List V)) z8 y8
    refine ⟨l8, _, _, v8, rfl, rfl, SqL.of (k8 l8 _ upd_same (fun e => by obtain ⟨_, _, q, _⟩ := P7; rw [← e, nl8] at q; cases q)), e8, ?_⟩
    have B8 : But p H7 H8 := ((But.upd nl8).trans k8)
    have g8 : ∃ d, Good H8 v8 d := by
      simp only [List.mem_cons, List.not_mem_nil, or_false] at m8
      rcases m8 with rfl | rfl | rfl
      · exact ⟨_, .str _ (by decide)⟩
      · exact ⟨_, .str _ (by decide)⟩
      · exact ⟨_, .str _ (by decide)⟩
    refine ⟨_, rfl, _, rfl, _, rfl, ?_⟩
    refine ⟨(by rw [sizeLine_eq]; show 9 ≤ _; omega), fun q nq => ?_⟩
    obtain ⟨d1, g1⟩ := g1
    obtain ⟨d2, g2⟩ := g2
    obtain ⟨d3, g3⟩ := g3
    obtain ⟨d4, g4⟩ := g4
    obtain ⟨d5, g5⟩ := g5
    obtain ⟨d6, g6⟩ := g6
    obtain ⟨d7, g7⟩ := g7
    obtain ⟨d8, g8⟩ := g8
    have S : Same H8 (upd H8 q (.lst [v1, v2, v3, v4, v5, v8, v5, v6, v7])) := fun b o e => by rw [upd_ne (ne_of_none e nq)]; exact e
    have G1 := (((((((g1.but P1 B2).but P2 B3).but P3 B4).but P4 B5).but P5 B6).but P6 B7).but P7 B8).same S
    have G2 := ((((((g2.but P2 B3).but P3 B4).but P4 B5).but P5 B6).but P6 B7).but P7 B8).same S
    have G3 := (((((g3.but P3 B4).but P4 B5).but P5 B6).but P6 B7).but P7 B8).same S
    have G4 := ((((g4.but P4 B5).but P5 B6).but P6 B7).but P7 B8).same S
    have G5 := (((g5.but P5 B6).but P6 B7).but P7 B8).same S
    have G6 := ((g6.but P6 B7).but P7 B8).same S
    have G7 := (g7.but P7 B8).same S
    have G8 := g8.same S
    have BT : But p H H8 := (((((((B1.trans B2).trans B3).trans B4).trans B5).trans B6).trans B7).trans B8)
    refine fin q _ [v1, v2, v3, v4, v5, v8, v5, v6, v7] [d1, d2, d3, d4, d5, d8, d5, d6, d7] (BT.trans (But.of S)) (P8.same S) (BT.free P8 nq) ⟨upd_same, rfl, .cons G1 (.cons G2 (.cons G3 (.cons G4 (.cons G5 (.cons G8 (.cons G5 (.cons G6 (.cons G7 .nil))))))))⟩
end
end K86

set_option Elab.async false
set_option linter.all false
set_option maxRecDepth 100000
set_option maxHeartbeats 8000000
namespace K86
open PySem PySem.Spec PyProof.Rows L2
def fs1 (g : Str) : List V → List (Str × V)
  | [v] => [(g, v)]
  | _ => []
def fsP : List V → List (Str × V)
  | [p, r] => [("reason", r), ("place", p)]
  | _ => []
def fsK : List V → List (Str × V)
  | [r, p] => [("reason", r), ("place", p)]
  | _ => []
section
variable {P : Program} {w : World} {K : PySem.W.Frag} {mg : Str → Option Value} {base : Heap}
theorem rel1 {g : Str} {v : V} {u : Value} (r : RelV v u) (f : Str) : RelO ((fs1 g [v]).lookup f) (if f = g then some u else none) := relO_put (fs := []) (mA := fun _ => none) r (fun _ => True.intro) f
theorem relR {p r : V} {u t : Value} (hp : RelV p u) (hr : RelV r t) (f : Str) : RelO (([("reason", r), ("place", p)] : List (Str × V)).lookup f) (if f = "reason" then some t else if f = "place" then some u else none) :=
  relO_put (mA := fun y => if y = ("place" : Str) then some u else none) hr (fun g => relO_put (fs := []) (mA := fun _ => none) hp (fun _ => True.intro) g) f
theorem Kind.mkP {nm : Str} {C : Addr} {g par : Str} (k : Kind P w K mg nm C g par) (m : Mod K mg base) (vs : List V) (us : List Value) (hl : vs.length = 1) (r : Vals vs us) :
    ∃ mm, MakesP P w base C us [] mm ∧ ∀ f, RelO ((fs1 g vs).lookup f) (mm f) := by
  cases r with
  | nil => cases hl
  | cons r1 rs =>
    cases rs with
    | nil => exact ⟨_, k.pos base m _, rel1 r1⟩
    | cons _ _ => simp at hl
theorem Kind.mkK {nm : Str} {C : Addr} {g par : Str} (k : Kind P w K mg nm C g par) (m : Mod K mg base) (vs : List V) (us : List Value) (hl : vs.length = 1) (r : Vals vs us) :
    ∃ mm, MakesP P w base C [] ([par].zip us) mm ∧ ∀ f, RelO ((fs1 g vs).lookup f) (mm f) := by
  cases r with
  | nil => cases hl
  | cons r1 rs =>
    cases rs with
    | nil => exact ⟨_, k.kw base m _, rel1 r1⟩
    | cons _ _ => simp at hl
theorem KindR.mkP {C : Addr} (k : KindR P w K mg C) (m : Mod K mg base) (vs : List V) (us : List Value) (hl : vs.length = 2) (r : Vals vs us) :
    ∃ mm, MakesP P w base C us [] mm ∧ ∀ f, RelO ((fsP vs).lookup f) (mm f) := by
  cases r with
  | nil => cases hl
  | cons r1 rs =>
    cases rs with
    | nil => simp at hl
    | cons r2 rt =>
      cases rt with
      | nil => exact ⟨_, k.pos base m _ _, relR r1 r2⟩
      | cons _ _ => simp at hl
theorem KindR.mkK {C : Addr} (k : KindR P w K mg C) (m : Mod K mg base) (vs : List V) (us : List Value) (hl : vs.length = 2) (r : Vals vs us) :
    ∃ mm, MakesP P w base C [] ((["reason", "place"] : List Str).zip us) mm ∧ ∀ f, RelO ((fsK vs).lookup f) (mm f) := by
  cases r with
  | nil => cases hl
  | cons r1 rs =>
    cases rs with
    | nil => simp at hl
    | cons r2 rt =>
      cases rt with
      | nil => exact ⟨_, k.kw base m _ _, relR r2 r1⟩
      | cons _ _ => simp at hl
end
/-- the twelve classes -/
structure Kinds (P : Program) (w : World) (K : PySem.W.Frag) (mg : Str → Option Value) (c0 c1 c2 c3 c4 c5 c6 c7 c8 c9 c10 c11 : Addr) : Prop where
  k0 : Kind P w K mg "NoPart" c0 "path" "path"
  k1 : Kind P w K mg "NoRow" c1 "index" "index"
  k2 : Kind P w K mg "NoSet" c2 "place" "place"
  k3 : Kind P w K mg "NoText" c3 "line" "line"
  k4 : Kind P w K mg "NoWord" c4 "value" "value"
  k5 : Kind P w K mg "TooLarge" c5 "limit" "limit"
  k6 : Kind0 K mg c6
  k7 : Kind P w K mg "NoChange" c7 "value" "change"
  k8 : Kind P w K mg "Stopped" c8 "place" "place"
  k9 : KindR P w K mg c9
  k10 : Kind P w K mg "Beyond" c10 "place" "place"
  k11 : Kind P w K mg "Endless" c11 "place" "place"
/-- errors in a row: of these classes, with these fields -/
def ErrAll (H : Hp) : List Addr → List Addr → List (List (Str × V)) → Prop
  | [], [], [] => True
  | C :: Cs, e :: es, f :: fs => ErrAt H C e f ∧ ErrAll H Cs es fs
  | _, _, _ => False
def fss (x0 x1 x2 x3 x4 x5 x6 x7 x8 : V) : List (List (Str × V)) :=
  [[("path", x0)], [("index", x1)], [("place", x2)], [("line", x3)], [("value", x4)], [("limit", x5)], [], [("value", x6)], [("place", x7)], [("reason", x8), ("place", x7)], [("place", x7)], [("place", x7)]]
section
variable {P : Program} {w : World} {K : PySem.W.Frag} {mg : Str → Option Value} {base : Heap} {c0 c1 c2 c3 c4 c5 c6 c7 c8 c9 c10 c11 : Addr}
def spMake (Cs : List Addr) : Sp := fun vs H Q _ => ∃ (p : Addr) (x0 x1 x2 x3 x4 x5 x6 x7 x8 : V), vs = [.ref p] ∧ H p = some (.lst [x0, x1, x2, x3, x4, x5, x6, x7, x8]) ∧
  ∀ (r : Addr) (es : List Addr) (H' : Hp), Same H H' → H r = none → H' r = some (.lst (es.map V.ref)) → ErrAll H' Cs es (fss x0 x1 x2 x3 x4 x5 x6 x7 x8) → Q (.ref r) H'
theorem scPos : FnScope ["some", "found"] ["some"] (defScope sPos) := ⟨rfl, rfl, rfl, by decide +kernel, rfl, by decide +kernel, by decide +kernel⟩
theorem scName : FnScope ["some", "found"] ["some"] (defScope sName) := ⟨rfl, rfl, rfl, by decide +kernel, rfl, by decide +kernel, by decide +kernel⟩
theorem ok_pos {f : Addr} {fd : FuncData} (F : Fun K "_law_by_position" "_law_by_position" sPos f fd) (T : Kinds P w K mg c0 c1 c2 c3 c4 c5 c6 c7 c8 c9 c10 c11) :
    FnOk P w K mg base CX0 2 f fd ["some"] (spMake [c0, c1, c2, c3, c4, c5, c6, c7, c8, c9, c10, c11]) := by
  refine F.ok scPos (fun vs H Q E h => ?_) (fun cdv A outer s H vs Q E hr h => ?_)
  · obtain ⟨p, x0, x1, x2, x3, x4, x5, x6, x7, x8, rfl, _⟩ := h
    rfl
  · obtain ⟨p, x0, x1, x2, x3, x4, x5, x6, x7, x8, rfl, hp, fin⟩ := h
    refine ⟨_, (pss_cons (ps_set (i := 1) scPos.nd rfl (Or.inl rfl) (pe_lst (pa_cons (pe_mkP hr rfl T.k0.gC T.k0.kC T.k0.mkP (pa_cons (pe_ix ix_list (pv 0) pe_int (fun _ _ => rfl)) pa_nil)) (pa_cons (pe_mkP hr rfl T.k1.gC T.k1.kC T.k1.mkP (pa_cons (pe_ix ix_list (pv 0) pe_int (fun _ _ => rfl)) pa_nil)) (pa_cons (pe_mkP hr rfl T.k2.gC T.k2.kC T.k2.mkP (pa_cons (pe_ix ix_list (pv 0) pe_int (fun _ _ => rfl)) pa_nil)) (pa_cons (pe_mkP hr rfl T.k3.gC T.k3.kC T.k3.mkP (pa_cons (pe_ix ix_list (pv 0) pe_int (fun _ _ => rfl)) pa_nil)) (pa_cons (pe_mkP hr rfl T.k4.gC T.k4.kC T.k4.mkP (pa_cons (pe_ix ix_list (pv 0) pe_int (fun _ _ => rfl)) pa_nil)) (pa_cons (pe_mkP hr rfl T.k5.gC T.k5.kC T.k5.mkP (pa_cons (pe_ix ix_list (pv 0) pe_int (fun _ _ => rfl)) pa_nil)) pa_nil))))))))
      (pss_cons (ps_set (i := 1) scPos.nd rfl (Or.inl rfl) (pe_op op_cat (pv 1) (pe_lst (pa_cons (pe_mk0 T.k6.ex rfl T.k6.gC T.k6.kC) (pa_cons (pe_mkP hr rfl T.k7.gC T.k7.kC T.k7.mkP (pa_cons (pe_ix ix_list (pv 0) pe_int (fun _ _ => rfl)) pa_nil)) (pa_cons (pe_mkP hr rfl T.k8.gC T.k8.kC T.k8.mkP (pa_cons (pe_ix ix_list (pv 0) pe_int (fun _ _ => rfl)) pa_nil)) (pa_cons (pe_mkP hr rfl T.k9.gC T.k9.kC T.k9.mkP (pa_cons (pe_ix ix_list (pv 0) pe_int (fun _ _ => rfl)) (pa_cons (pe_ix ix_list (pv 0) pe_int (fun _ _ => rfl)) pa_nil))) (pa_cons (pe_mkP hr rfl T.k10.gC T.k10.kC T.k10.mkP (pa_cons (pe_ix ix_list (pv 0) pe_int (fun _ _ => rfl)) pa_nil)) pa_nil))))))))
      (pss_one (ps_ret (pe_op op_cat (pv 1) (pe_lst (pa_cons (pe_mkP hr rfl T.k11.gC T.k11.kC T.k11.mkP (pa_cons (pe_ix ix_list (pv 0) pe_int (fun _ _ => rfl)) pa_nil)) pa_nil))))))), ?_⟩
    refine ⟨_, rfl, p, _, _, x0, rfl, rfl, SqL.of hp, rfl, rfl, fun e0 d0 G1 S1 z1 a0 b0 => ?_⟩
    have hp1 := S1 _ _ hp
    refine ⟨_, rfl, p, _, _, x1, rfl, rfl, SqL.of hp1, rfl, rfl, fun e1 d1 G2 S2 z2 a1 b1 => ?_⟩
    have hp2 := S2 _ _ hp1
    refine ⟨_, rfl, p, _, _, x2, rfl, rfl, SqL.of hp2, rfl, rfl, fun e2 d2 G3 S3 z3 a2 b2 => ?_⟩
    have hp3 := S3 _ _ hp2
    refine ⟨_, rfl, p, _, _, x3, rfl, rfl, SqL.of hp3, rfl, rfl, fun e3 d3 G4 S4 z4 a3 b3 => ?_⟩
    have hp4 := S4 _ _ hp3
    refine ⟨_, rfl, p, _, _, x4, rfl, rfl, SqL.of hp4, rfl, rfl, fun e4 d4 G5 S5 z5 a4 b4 => ?_⟩
    have hp5 := S5 _ _ hp4
    refine ⟨_, rfl, p, _, _, x5, rfl, rfl, SqL.of hp5, rfl, rfl, fun e5 d5 G6 S6 z6 a5 b5 => ?_⟩
    have hp6 := S6 _ _ hp5
    refine ⟨(by rw [sizeLine_eq]; show 6 ≤ _; omega), fun l0 nl0 => ?_⟩
    have S7 : Same G6 (upd G6 l0 (.lst [.ref e0, .ref e1, .ref e2, .ref e3, .ref e4, .ref e5])) := fun b o e => by rw [upd_ne (ne_of_none e nl0)]; exact e
    have L0 : (upd G6 l0 (.lst [.ref e0, .ref e1, .ref e2, .ref e3, .ref e4, .ref e5])) l0 = some (.lst [.ref e0, .ref e1, .ref e2, .ref e3, .ref e4, .ref e5]) := upd_same
    have hp7 := S7 _ _ hp6
    refine ⟨_, rfl, ?_⟩
    intro e6 G8 S8 z8 a6
    have hp8 := S8 _ _ hp7
    refine ⟨_, rfl, p, _, _, x6, rfl, rfl, SqL.of hp8, rfl, rfl, fun e7 d7 G9 S9 z9 a7 b7 => ?_⟩
    have hp9 := S9 _ _ hp8
    refine ⟨_, rfl, p, _, _, x7, rfl, rfl, SqL.of hp9, rfl, rfl, fun e8 d8 G10 S10 z10 a8 b8 => ?_⟩
    have hp10 := S10 _ _ hp9
    refine ⟨_, rfl, p, _, _, x7, rfl, rfl, SqL.of hp10, rfl, _, rfl, p, _, _, x8, rfl, rfl, SqL.of hp10, rfl, rfl, fun e9 d9 G11 S11 z11 a9 b9 => ?_⟩
    have hp11 := S11 _ _ hp10
    refine ⟨_, rfl, p, _, _, x7, rfl, rfl, SqL.of hp11, rfl, rfl, fun e10 d10 G12 S12 z12 a10 b10 => ?_⟩
    have hp12 := S12 _ _ hp11
    refine ⟨(by rw [sizeLine_eq]; show 5 ≤ _; omega), fun l1 nl1 => ?_⟩
    have S13 : Same G12 (upd G12 l1 (.lst [.ref e6, .ref e7, .ref e8, .ref e9, .ref e10])) := fun b o e => by rw [upd_ne (ne_of_none e nl1)]; exact e
    have L1 : (upd G12 l1 (.lst [.ref e6, .ref e7, .ref e8, .ref e9, .ref e10])) l1 = some (.lst [.ref e6, .ref e7, .ref e8, .ref e9, .ref e10]) := upd_same
    have hp13 := S13 _ _ hp12
    refine ⟨_, _, _, _, rfl, rfl, (S13 _ _ (S12 _ _ (S11 _ _ (S10 _ _ (S9 _ _ (S8 _ _ L0)))))), L1, (by rw [sizeLine_eq]; show 11 ≤ _; omega), fun j1 nc1 => ?_⟩
    have S14 : Same (upd G12 l1 (.lst [.ref e6, .ref e7, .ref e8, .ref e9, .ref e10])) (upd (upd G12 l1 (.lst [.ref e6, .ref e7, .ref e8, .ref e9, .ref e10])) j1 (.lst [.ref e0, .ref e1, .ref e2, .ref e3, .ref e4, .ref e5, .ref e6, .ref e7, .ref e8, .ref e9, .ref e10])) := fun b o e => by rw [upd_ne (ne_of_none e nc1)]; exact e
    have L1c : (upd (upd G12 l1 (.lst [.ref e6, .ref e7, .ref e8, .ref e9, .ref e10])) j1 (.lst [.ref e0, .ref e1, .ref e2, .ref e3, .ref e4, .ref e5, .ref e6, .ref e7, .ref e8, .ref e9, .ref e10])) j1 = some (.lst [.ref e0, .ref e1, .ref e2, .ref e3, .ref e4, .ref e5, .ref e6, .ref e7, .ref e8, .ref e9, .ref e10]) := upd_same
    have hp14 := S14 _ _ hp13
    refine ⟨_, rfl, ?_⟩
    refine ⟨_, rfl, p, _, _, x7, rfl, rfl, SqL.of hp14, rfl, rfl, fun e11 d11 G15 S15 z15 a11 b11 => ?_⟩
    have hp15 := S15 _ _ hp14
    refine ⟨(by rw [sizeLine_eq]; show 1 ≤ _; omega), fun l2 nl2 => ?_⟩
    have S16 : Same G15 (upd G15 l2 (.lst [.ref e11])) := fun b o e => by rw [upd_ne (ne_of_none e nl2)]; exact e
    have L2 : (upd G15 l2 (.lst [.ref e11])) l2 = some (.lst [.ref e11]) := upd_same
    have hp16 := S16 _ _ hp15
    refine ⟨_, _, _, _, rfl, rfl, (S16 _ _ (S15 _ _ L1c)), L2, (by rw [sizeLine_eq]; show 12 ≤ _; omega), fun j2 nc2 => ?_⟩
    have S17 : Same (upd G15 l2 (.lst [.ref e11])) (upd (upd G15 l2 (.lst [.ref e11])) j2 (.lst [.ref e0, .ref e1, .ref e2, .ref e3, .ref e4, .ref e5, .ref e6, .ref e7, .ref e8, .ref e9, .ref e10, .ref e11])) := fun b o e => by rw [upd_ne (ne_of_none e nc2)]; exact e
    have L2c : (upd (upd G15 l2 (.lst [.ref e11])) j2 (.lst [.ref e0, .ref e1, .ref e2, .ref e3, .ref e4, .ref e5, .ref e6, .ref e7, .ref e8, .ref e9, .ref e10, .ref e11])) j2 = some (.lst [.ref e0, .ref e1, .ref e2, .ref e3, .ref e4, .ref e5, .ref e6, .ref e7, .ref e8, .ref e9, .ref e10, .ref e11]) := upd_same
    have hp17 := S17 _ _ hp16
    have S : Same H (upd (upd G15 l2 (.lst [.ref e11])) j2 (.lst [.ref e0, .ref e1, .ref e2, .ref e3, .ref e4, .ref e5, .ref e6, .ref e7, .ref e8, .ref e9, .ref e10, .ref e11])) := ((((((((((((((((S1.trans S2).trans S3).trans S4).trans S5).trans S6).trans S7).trans S8).trans S9).trans S10).trans S11).trans S12).trans S13).trans S14).trans S15).trans S16).trans S17)
    have E0 := ((show ErrAt G1 c0 e0 [("path", x0)] from .inr ⟨_, a0, b0⟩).same (((((((((((((((S2.trans S3).trans S4).trans S5).trans S6).trans S7).trans S8).trans S9).trans S10).trans S11).trans S12).trans S13).trans S14).trans S15).trans S16).trans S17))
    have E1 := ((show ErrAt G2 c1 e1 [("index", x1)] from .inr ⟨_, a1, b1⟩).same ((((((((((((((S3.trans S4).trans S5).trans S6).trans S7).trans S8).trans S9).trans S10).trans S11).trans S12).trans S13).trans S14).trans S15).trans S16).trans S17))
    have E2 := ((show ErrAt G3 c2 e2 [("place", x2)] from .inr ⟨_, a2, b2⟩).same (((((((((((((S4.trans S5).trans S6).trans S7).trans S8).trans S9).trans S10).trans S11).trans S12).trans S13).trans S14).trans S15).trans S16).trans S17))
    have E3 := ((show ErrAt G4 c3 e3 [("line", x3)] from .inr ⟨_, a3, b3⟩).same ((((((((((((S5.trans S6).trans S7).trans S8).trans S9).trans S10).trans S11).trans S12).trans S13).trans S14).trans S15).trans S16).trans S17))
    have E4 := ((show ErrAt G5 c4 e4 [("value", x4)] from .inr ⟨_, a4, b4⟩).same (((((((((((S6.trans S7).trans S8).trans S9).trans S10).trans S11).trans S12).trans S13).trans S14).trans S15).trans S16).trans S17))
    have E5 := ((show ErrAt G6 c5 e5 [("limit", x5)] from .inr ⟨_, a5, b5⟩).same ((((((((((S7.trans S8).trans S9).trans S10).trans S11).trans S12).trans S13).trans S14).trans S15).trans S16).trans S17))
    have E6 := ((show ErrAt G8 c6 e6 [] from .inl ⟨rfl, a6⟩).same ((((((((S9.trans S10).trans S11).trans S12).trans S13).trans S14).trans S15).trans S16).trans S17))
    have E7 := ((show ErrAt G9 c7 e7 [("value", x6)] from .inr ⟨_, a7, b7⟩).same (((((((S10.trans S11).trans S12).trans S13).trans S14).trans S15).trans S16).trans S17))
    have E8 := ((show ErrAt G10 c8 e8 [("place", x7)] from .inr ⟨_, a8, b8⟩).same ((((((S11.trans S12).trans S13).trans S14).trans S15).trans S16).trans S17))
    have E9 := ((show ErrAt G11 c9 e9 [("reason", x8), ("place", x7)] from .inr ⟨_, a9, b9⟩).same (((((S12.trans S13).trans S14).trans S15).trans S16).trans S17))
    have E10 := ((show ErrAt G12 c10 e10 [("place", x7)] from .inr ⟨_, a10, b10⟩).same ((((S13.trans S14).trans S15).trans S16).trans S17))
    have E11 := ((show ErrAt G15 c11 e11 [("place", x7)] from .inr ⟨_, a11, b11⟩).same (S16.trans S17))
    have nr : H j2 = none := ((((((((((((((((S1.trans S2).trans S3).trans S4).trans S5).trans S6).trans S7).trans S8).trans S9).trans S10).trans S11).trans S12).trans S13).trans S14).trans S15).trans S16)).free nc2
    exact fin j2 [e0, e1, e2, e3, e4, e5, e6, e7, e8, e9, e10, e11] (upd (upd G15 l2 (.lst [.ref e11])) j2 (.lst [.ref e0, .ref e1, .ref e2, .ref e3, .ref e4, .ref e5, .ref e6, .ref e7, .ref e8, .ref e9, .ref e10, .ref e11])) S nr L2c ⟨E0, E1, E2, E3, E4, E5, E6, E7, E8, E9, E10, E11, trivial⟩
theorem ok_name {f : Addr} {fd : FuncData} (F : Fun K "_law_by_name" "_law_by_name" sName f fd) (T : Kinds P w K mg c0 c1 c2 c3 c4 c5 c6 c7 c8 c9 c10 c11) :
    FnOk P w K mg base CX0 2 f fd ["some"] (spMake [c0, c1, c2, c3, c4, c5, c6, c7, c8, c9, c10, c11]) := by
  refine F.ok scName (fun vs H Q E h => ?_) (fun cdv A outer s H vs Q E hr h => ?_)
  · obtain ⟨p, x0, x1, x2, x3, x4, x5, x6, x7, x8, rfl, _⟩ := h
    rfl
  · obtain ⟨p, x0, x1, x2, x3, x4, x5, x6, x7, x8, rfl, hp, fin⟩ := h
    refine ⟨_, (pss_cons (ps_set (i := 1) scName.nd rfl (Or.inl rfl) (pe_lst (pa_cons (pe_mkK (ks := ["path"]) hr rfl T.k0.gC T.k0.kC T.k0.mkK (pk_cons (pe_ix ix_list (pv 0) pe_int (fun _ _ => rfl)) pk_nil)) (pa_cons (pe_mkK (ks := ["index"]) hr rfl T.k1.gC T.k1.kC T.k1.mkK (pk_cons (pe_ix ix_list (pv 0) pe_int (fun _ _ => rfl)) pk_nil)) (pa_cons (pe_mkK (ks := ["place"]) hr rfl T.k2.gC T.k2.kC T.k2.mkK (pk_cons (pe_ix ix_list (pv 0) pe_int (fun _ _ => rfl)) pk_nil)) (pa_cons (pe_mkK (ks := ["line"]) hr rfl T.k3.gC T.k3.kC T.k3.mkK (pk_cons (pe_ix ix_list (pv 0) pe_int (fun _ _ => rfl)) pk_nil)) pa_nil))))))
      (pss_cons (ps_set (i := 1) scName.nd rfl (Or.inl rfl) (pe_op op_cat (pv 1) (pe_lst (pa_cons (pe_mkK (ks := ["value"]) hr rfl T.k4.gC T.k4.kC T.k4.mkK (pk_cons (pe_ix ix_list (pv 0) pe_int (fun _ _ => rfl)) pk_nil)) (pa_cons (pe_mkK (ks := ["limit"]) hr rfl T.k5.gC T.k5.kC T.k5.mkK (pk_cons (pe_ix ix_list (pv 0) pe_int (fun _ _ => rfl)) pk_nil)) (pa_cons (pe_mk0 T.k6.ex rfl T.k6.gC T.k6.kC) (pa_cons (pe_mkK (ks := ["change"]) hr rfl T.k7.gC T.k7.kC T.k7.mkK (pk_cons (pe_ix ix_list (pv 0) pe_int (fun _ _ => rfl)) pk_nil)) pa_nil)))))))
      (pss_cons (ps_set (i := 1) scName.nd rfl (Or.inl rfl) (pe_op op_cat (pv 1) (pe_lst (pa_cons (pe_mkK (ks := ["place"]) hr rfl T.k8.gC T.k8.kC T.k8.mkK (pk_cons (pe_ix ix_list (pv 0) pe_int (fun _ _ => rfl)) pk_nil)) (pa_cons (pe_mkK (ks := ["reason", "place"]) hr rfl T.k9.gC T.k9.kC T.k9.mkK (pk_cons (pe_ix ix_list (pv 0) pe_int (fun _ _ => rfl)) (pk_cons (pe_ix ix_list (pv 0) pe_int (fun _ _ => rfl)) pk_nil))) (pa_cons (pe_mkK (ks := ["place"]) hr rfl T.k10.gC T.k10.kC T.k10.mkK (pk_cons (pe_ix ix_list (pv 0) pe_int (fun _ _ => rfl)) pk_nil)) pa_nil))))))
      (pss_one (ps_ret (pe_op op_cat (pv 1) (pe_lst (pa_cons (pe_mkK (ks := ["place"]) hr rfl T.k11.gC T.k11.kC T.k11.mkK (pk_cons (pe_ix ix_list (pv 0) pe_int (fun _ _ => rfl)) pk_nil)) pa_nil)))))))), ?_⟩
    refine ⟨_, rfl, p, _, _, x0, rfl, rfl, SqL.of hp, rfl, rfl, fun e0 d0 G1 S1 z1 a0 b0 => ?_⟩
    have hp1 := S1 _ _ hp
    refine ⟨_, rfl, p, _, _, x1, rfl, rfl, SqL.of hp1, rfl, rfl, fun e1 d1 G2 S2 z2 a1 b1 => ?_⟩
    have hp2 := S2 _ _ hp1
    refine ⟨_, rfl, p, _, _, x2, rfl, rfl, SqL.of hp2, rfl, rfl, fun e2 d2 G3 S3 z3 a2 b2 => ?_⟩
    have hp3 := S3 _ _ hp2
    refine ⟨_, rfl, p, _, _, x3, rfl, rfl, SqL.of hp3, rfl, rfl, fun e3 d3 G4 S4 z4 a3 b3 => ?_⟩
    have hp4 := S4 _ _ hp3
    refine ⟨(by rw [sizeLine_eq]; show 4 ≤ _; omega), fun l0 nl0 => ?_⟩
    have S5 : Same G4 (upd G4 l0 (.lst [.ref e0, .ref e1, .ref e2, .ref e3])) := fun b o e => by rw [upd_ne (ne_of_none e nl0)]; exact e
    have L0 : (upd G4 l0 (.lst [.ref e0, .ref e1, .ref e2, .ref e3])) l0 = some (.lst [.ref e0, .ref e1, .ref e2, .ref e3]) := upd_same
    have hp5 := S5 _ _ hp4
    refine ⟨_, rfl, ?_⟩
    refine ⟨_, rfl, p, _, _, x4, rfl, rfl, SqL.of hp5, rfl, rfl, fun e4 d4 G6 S6 z6 a4 b4 => ?_⟩
    have hp6 := S6 _ _ hp5
    refine ⟨_, rfl, p, _, _, x5, rfl, rfl, SqL.of hp6, rfl, rfl, fun e5 d5 G7 S7 z7 a5 b5 => ?_⟩
    have hp7 := S7 _ _ hp6
    intro e6 G8 S8 z8 a6
    have hp8 := S8 _ _ hp7
    refine ⟨_, rfl, p, _, _, x6, rfl, rfl, SqL.of hp8, rfl, rfl, fun e7 d7 G9 S9 z9 a7 b7 => ?_⟩
    have hp9 := S9 _ _ hp8
    refine ⟨(by rw [sizeLine_eq]; show 4 ≤ _; omega), fun l1 nl1 => ?_⟩
    have S10 : Same G9 (upd G9 l1 (.lst [.ref e4, .ref e5, .ref e6, .ref e7])) := fun b o e => by rw [upd_ne (ne_of_none e nl1)]; exact e
    have L1 : (upd G9 l1 (.lst [.ref e4, .ref e5, .ref e6, .ref e7])) l1 = some (.lst [.ref e4, .ref e5, .ref e6, .ref e7]) := upd_same
    have hp10 := S10 _ _ hp9
    refine ⟨_, _, _, _, rfl, rfl, (S10 _ _ (S9 _ _ (S8 _ _ (S7 _ _ (S6 _ _ L0))))), L1, (by rw [sizeLine_eq]; show 8 ≤ _; omega), fun j1 nc1 => ?_⟩
    have S11 : Same (upd G9 l1 (.lst [.ref e4, .ref e5, .ref e6, .ref e7])) (upd (upd G9 l1 (.lst [.ref e4, .ref e5, .ref e6, .ref e7])) j1 (.lst [.ref e0, .ref e1, .ref e2, .ref e3, .ref e4, .ref e5, .ref e6, .ref e7])) := fun b o e => by rw [upd_ne (ne_of_none e nc1)]; exact e
    have L1c : (upd (upd G9 l1 (.lst [.ref e4, .ref e5, .ref e6, .ref e7])) j1 (.lst [.ref e0, .ref e1, .ref e2, .ref e3, .ref e4, .ref e5, .ref e6, .ref e7])) j1 = some (.lst [.ref e0, .ref e1, .ref e2, .ref e3, .ref e4, .ref e5, .ref e6, .ref e7]) := upd_same
    have hp11 := S11 _ _ hp10
    refine ⟨_, rfl, ?_⟩
    refine ⟨_, rfl, p, _, _, x7, rfl, rfl, SqL.of hp11, rfl, rfl, fun e8 d8 G12 S12 z12 a8 b8 => ?_⟩
    have hp12 := S12 _ _ hp11
    refine ⟨_, rfl, p, _, _, x8, rfl, rfl, SqL.of hp12, rfl, _, rfl, p, _, _, x7, rfl, rfl, SqL.of hp12, rfl, rfl, fun e9 d9 G13 S13 z13 a9 b9 => ?_⟩
    have hp13 := S13 _ _ hp12
    refine ⟨_, rfl, p, _, _, x7, rfl, rfl, SqL.of hp13, rfl, rfl, fun e10 d10 G14 S14 z14 a10 b10 => ?_⟩
    have hp14 := S14 _ _ hp13
    refine ⟨(by rw [sizeLine_eq]; show 3 ≤ _; omega), fun l2 nl2 => ?_⟩
    have S15 : Same G14 (upd G14 l2 (.lst [.ref e8, .ref e9, .ref e10])) := fun b o e => by rw [upd_ne (ne_of_none e nl2)]; exact e
    have L2 : (upd G14 l2 (.lst [.ref e8, .ref e9, .ref e10])) l2 = some (.lst [.ref e8, .ref e9, .ref e10]) := upd_same
    have hp15 := S15 _ _ hp14
    refine ⟨_, _, _, _, rfl, rfl, (S15 _ _ (S14 _ _ (S13 _ _ (S12 _ _ L1c)))), L2, (by rw [sizeLine_eq]; show 11 ≤ _; omega), fun j2 nc2 => ?_⟩
    have S16 : Same (upd G14 l2 (.lst [.ref e8, .ref e9, .ref e10])) (upd (upd G14 l2 (.lst [.ref e8, .ref e9, .ref e10])) j2 (.lst [.ref e0, .ref e1, .ref e2, .ref e3, .ref e4, .ref e5, .ref e6, .ref e7, .ref e8, .ref e9, .ref e10])) := fun b o e => by rw [upd_ne (ne_of_none e nc2)]; exact e
    have L2c : (upd (upd G14 l2 (.lst [.ref e8, .ref e9, .ref e10])) j2 (.lst [.ref e0, .ref e1, .ref e2, .ref e3, .ref e4, .ref e5, .ref e6, .ref e7, .ref e8, .ref e9, .ref e10])) j2 = some (.lst [.ref e0, .ref e1, .ref e2, .ref e3, .ref e4, .ref e5, .ref e6, .ref e7, .ref e8, .ref e9, .ref e10]) := upd_same
    have hp16 := S16 _ _ hp15
    refine ⟨_, rfl, ?_⟩
    refine ⟨_, rfl, p, _, _, x7, rfl, rfl, SqL.of hp16, rfl, rfl, fun e11 d11 G17 S17 z17 a11 b11 => ?_⟩
    have hp17 := S17 _ _ hp16
    refine ⟨(by rw [sizeLine_eq]; show 1 ≤ _; omega), fun l3 nl3 => ?_⟩
    have S18 : Same G17 (upd G17 l3 (.lst [.ref e11])) := fun b o e => by rw [upd_ne (ne_of_none e nl3)]; exact e
    have L3 : (upd G17 l3 (.lst [.ref e11])) l3 = some (.lst [.ref e11]) := upd_same
    have hp18 := S18 _ _ hp17
    refine ⟨_, _, _, _, rfl, rfl, (S18 _ _ (S17 _ _ L2c)), L3, (by rw [sizeLine_eq]; show 12 ≤ _; omega), fun j3 nc3 => ?_⟩
    have S19 : Same (upd G17 l3 (.lst [.ref e11])) (upd (upd G17 l3 (.lst [.ref e11])) j3 (.lst [.ref e0, .ref e1, .ref e2, .ref e3, .ref e4, .ref e5, .ref e6, .ref e7, .ref e8, .ref e9, .ref e10, .ref e11])) := fun b o e => by rw [upd_ne (ne_of_none e nc3)]; exact e
    have L3c : (upd (upd G17 l3 (.lst [.ref e11])) j3 (.lst [.ref e0, .ref e1, .ref e2, .ref e3, .ref e4, .ref e5, .ref e6, .ref e7, .ref e8, .ref e9, .ref e10, .ref e11])) j3 = some (.lst [.ref e0, .ref e1, .ref e2, .ref e3, .ref e4, .ref e5, .ref e6, .ref e7, .ref e8, .ref e9, .ref e10, .ref e11]) := upd_same
    have hp19 := S19 _ _ hp18
    have S : Same H (upd (upd G17 l3 (.lst [.ref e11])) j3 (.lst [.ref e0, .ref e1, .ref e2, .ref e3, .ref e4, .ref e5, .ref e6, .ref e7, .ref e8, .ref e9, .ref e10, .ref e11])) := ((((((((((((((((((S1.trans S2).trans S3).trans S4).trans S5).trans S6).trans S7).trans S8).trans S9).trans S10).trans S11).trans S12).trans S13).trans S14).trans S15).trans S16).trans S17).trans S18).trans S19)
    have E0 := ((show ErrAt G1 c0 e0 [("path", x0)] from .inr ⟨_, a0, b0⟩).same (((((((((((((((((S2.trans S3).trans S4).trans S5).trans S6).trans S7).trans S8).trans S9).trans S10).trans S11).trans S12).trans S13).trans S14).trans S15).trans S16).trans S17).trans S18).trans S19))
    have E1 := ((show ErrAt G2 c1 e1 [("index", x1)] from .inr ⟨_, a1, b1⟩).same ((((((((((((((((S3.trans S4).trans S5).trans S6).trans S7).trans S8).trans S9).trans S10).trans S11).trans S12).trans S13).trans S14).trans S15).trans S16).trans S17).trans S18).trans S19))
    have E2 := ((show ErrAt G3 c2 e2 [("place", x2)] from .inr ⟨_, a2, b2⟩).same (((((((((((((((S4.trans S5).trans S6).trans S7).trans S8).trans S9).trans S10).trans S11).trans S12).trans S13).trans S14).trans S15).trans S16).trans S17).trans S18).trans S19))
    have E3 := ((show ErrAt G4 c3 e3 [("line", x3)] from .inr ⟨_, a3, b3⟩).same ((((((((((((((S5.trans S6).trans S7).trans S8).trans S9).trans S10).trans S11).trans S12).trans S13).trans S14).trans S15).trans S16).trans S17).trans S18).trans S19))
    have E4 := ((show ErrAt G6 c4 e4 [("value", x4)] from .inr ⟨_, a4, b4⟩).same ((((((((((((S7.trans S8).trans S9).trans S10).trans S11).trans S12).trans S13).trans S14).trans S15).trans S16).trans S17).trans S18).trans S19))
    have E5 := ((show ErrAt G7 c5 e5 [("limit", x5)] from .inr ⟨_, a5, b5⟩).same (((((((((((S8.trans S9).trans S10).trans S11).trans S12).trans S13).trans S14).trans S15).trans S16).trans S17).trans S18).trans S19))
    have E6 := ((show ErrAt G8 c6 e6 [] from .inl ⟨rfl, a6⟩).same ((((((((((S9.trans S10).trans S11).trans S12).trans S13).trans S14).trans S15).trans S16).trans S17).trans S18).trans S19))
    have E7 := ((show ErrAt G9 c7 e7 [("value", x6)] from .inr ⟨_, a7, b7⟩).same (((((((((S10.trans S11).trans S12).trans S13).trans S14).trans S15).trans S16).trans S17).trans S18).trans S19))
    have E8 := ((show ErrAt G12 c8 e8 [("place", x7)] from .inr ⟨_, a8, b8⟩).same ((((((S13.trans S14).trans S15).trans S16).trans S17).trans S18).trans S19))
    have E9 := ((show ErrAt G13 c9 e9 [("reason", x8), ("place", x7)] from .inr ⟨_, a9, b9⟩).same (((((S14.trans S15).trans S16).trans S17).trans S18).trans S19))
    have E10 := ((show ErrAt G14 c10 e10 [("place", x7)] from .inr ⟨_, a10, b10⟩).same ((((S15.trans S16).trans S17).trans S18).trans S19))
    have E11 := ((show ErrAt G17 c11 e11 [("place", x7)] from .inr ⟨_, a11, b11⟩).same (S18.trans S19))
    have nr : H j3 = none := ((((((((((((((((((S1.trans S2).trans S3).trans S4).trans S5).trans S6).trans S7).trans S8).trans S9).trans S10).trans S11).trans S12).trans S13).trans S14).trans S15).trans S16).trans S17).trans S18)).free nc3
    exact fin j3 [e0, e1, e2, e3, e4, e5, e6, e7, e8, e9, e10, e11] (upd (upd G17 l3 (.lst [.ref e11])) j3 (.lst [.ref e0, .ref e1, .ref e2, .ref e3, .ref e4, .ref e5, .ref e6, .ref e7, .ref e8, .ref e9, .ref e10, .ref e11])) S nr L3c ⟨E0, E1, E2, E3, E4, E5, E6, E7, E8, E9, E10, E11, trivial⟩
end
end K86

set_option Elab.async false
set_option linter.all false
set_option maxRecDepth 100000
set_option maxHeartbeats 8000000
namespace K86
open PySem PySem.Spec PyProof.Rows L2
theorem ErrAt.dict {H : Hp} {C e : Addr} {fs : List (Str × V)} (h : ErrAt H C e fs) (ne : fs ≠ []) : ∃ d, H e = some (exo e C (some d)) ∧ H d = some (exd d fs) := by
  rcases h with ⟨a, _⟩ | h
  · exact absurd a ne
  · exact h
theorem ErrAll.uncons {H : Hp} {C : Addr} {Cs es : List Addr} {f : List (Str × V)} {fs : List (List (Str × V))} (h : ErrAll H (C :: Cs) es (f :: fs)) : ∃ e r, es = e :: r ∧ ErrAt H C e f ∧ ErrAll H Cs r fs := by
  cases es with
  | nil => exact h.elim
  | cons e r => exact ⟨e, r, rfl, h.1, h.2⟩
theorem ErrAll.twelve {H : Hp} {c0 c1 c2 c3 c4 c5 c6 c7 c8 c9 c10 c11 : Addr} {f0 f1 f2 f3 f4 f5 f6 f7 f8 f9 f10 f11 : List (Str × V)} {es : List Addr}
    (h : ErrAll H [c0, c1, c2, c3, c4, c5, c6, c7, c8, c9, c10, c11] es [f0, f1, f2, f3, f4, f5, f6, f7, f8, f9, f10, f11]) :
    ∃ e0 e1 e2 e3 e4 e5 e6 e7 e8 e9 e10 e11, es = [e0, e1, e2, e3, e4, e5, e6, e7, e8, e9, e10, e11] ∧ ErrAt H c0 e0 f0 ∧ ErrAt H c1 e1 f1 ∧ ErrAt H c2 e2 f2 ∧ ErrAt H c3 e3 f3 ∧ ErrAt H c4 e4 f4 ∧ ErrAt H c5 e5 f5 ∧
      ErrAt H c6 e6 f6 ∧ ErrAt H c7 e7 f7 ∧ ErrAt H c8 e8 f8 ∧ ErrAt H c9 e9 f9 ∧ ErrAt H c10 e10 f10 ∧ ErrAt H c11 e11 f11 := by
  obtain ⟨e0, r0, rfl, h0, g0⟩ := ErrAll.uncons h
  obtain ⟨e1, r1, rfl, h1, g1⟩ := ErrAll.uncons g0
  obtain ⟨e2, r2, rfl, h2, g2⟩ := ErrAll.uncons g1
  obtain ⟨e3, r3, rfl, h3, g3⟩ := ErrAll.uncons g2
  obtain ⟨e4, r4, rfl, h4, g4⟩ := ErrAll.uncons g3
  obtain ⟨e5, r5, rfl, h5, g5⟩ := ErrAll.uncons g4
  obtain ⟨e6, r6, rfl, h6, g6⟩ := ErrAll.uncons g5
  obtain ⟨e7, r7, rfl, h7, g7⟩ := ErrAll.uncons g6
  obtain ⟨e8, r8, rfl, h8, g8⟩ := ErrAll.uncons g7
  obtain ⟨e9, r9, rfl, h9, g9⟩ := ErrAll.uncons g8
  obtain ⟨e10, r10, rfl, h10, g10⟩ := ErrAll.uncons g9
  obtain ⟨e11, r11, rfl, h11, g11⟩ := ErrAll.uncons g10
  obtain rfl : r11 = [] := by
    cases r11 with
    | nil => rfl
    | cons _ _ => exact g11.elim
  exact ⟨e0, e1, e2, e3, e4, e5, e6, e7, e8, e9, e10, e11, rfl, h0, h1, h2, h3, h4, h5, h6, h7, h8, h9, h10, h11⟩
/-- whether an error of the class i is of the class j -/
def tab (i j : Nat) : Bool := i == j || (j == 8 && (i == 9 || i == 10 || i == 11))
/-- what isinstance says of the class C, the i-th, against the twelve and the two above -/
structure KitRow (K : PySem.W.Frag) (C : Addr) (i : Nat) (c0 c1 c2 c3 c4 c5 c6 c7 c8 c9 c10 c11 cL : Addr) : Prop where
  k0 : PySem.W.kitOne K (.ref C) (.ref c0) = some (tab i 0)
  k1 : PySem.W.kitOne K (.ref C) (.ref c1) = some (tab i 1)
  k2 : PySem.W.kitOne K (.ref C) (.ref c2) = some (tab i 2)
  k3 : PySem.W.kitOne K (.ref C) (.ref c3) = some (tab i 3)
  k4 : PySem.W.kitOne K (.ref C) (.ref c4) = some (tab i 4)
  k5 : PySem.W.kitOne K (.ref C) (.ref c5) = some (tab i 5)
  k6 : PySem.W.kitOne K (.ref C) (.ref c6) = some (tab i 6)
  k7 : PySem.W.kitOne K (.ref C) (.ref c7) = some (tab i 7)
  k8 : PySem.W.kitOne K (.ref C) (.ref c8) = some (tab i 8)
  k9 : PySem.W.kitOne K (.ref C) (.ref c9) = some (tab i 9)
  k10 : PySem.W.kitOne K (.ref C) (.ref c10) = some (tab i 10)
  k11 : PySem.W.kitOne K (.ref C) (.ref c11) = some (tab i 11)
  kL : PySem.W.kitOne K (.ref C) (.ref cL) = some true
  kV : PySem.W.kitOne K (.ref C) (.type "ValueError") = some true
section
variable {P : Program} {w : World} {K : PySem.W.Frag} {mg : Str → Option Value} {base : Heap} {c0 c1 c2 c3 c4 c5 c6 c7 c8 c9 c10 c11 cL : Addr}
def spFields (Cs : List Addr) : Sp := fun vs H Q _ => ∃ (r : Addr) (es : List Addr) (x0 x1 x2 x3 x4 x5 x6 x7 x8 : V), vs = [.ref r] ∧ H r = some (.lst (es.map V.ref)) ∧ ErrAll H Cs es (fss x0 x1 x2 x3 x4 x5 x6 x7 x8) ∧
  ∀ (q : Addr) (H' : Hp), Same H H' → H q = none → H' q = some (.lst [x0, x1, x2, x3, x4, x5, x6, x7, x7, x7, x7, x8]) → Q (.ref q) H'
theorem scFields : FnScope ["made", "found"] ["made"] (defScope sFields) := ⟨rfl, rfl, rfl, by decide +kernel, rfl, by decide +kernel, by decide +kernel⟩
theorem ok_fields {f : Addr} {fd : FuncData} (F : Fun K "_law_fields" "_law_fields" sFields f fd) (T : Kinds P w K mg c0 c1 c2 c3 c4 c5 c6 c7 c8 c9 c10 c11) :
    FnOk P w K mg base CX0 1 f fd ["made"] (spFields [c0, c1, c2, c3, c4, c5, c6, c7, c8, c9, c10, c11]) := by
  refine F.ok scFields (fun vs H Q E h => ?_) (fun cdv A outer s H vs Q E hr h => ?_)
  · obtain ⟨r, es, x0, x1, x2, x3, x4, x5, x6, x7, x8, rfl, _⟩ := h
    rfl
  · obtain ⟨r, es, x0, x1, x2, x3, x4, x5, x6, x7, x8, rfl, hr0, hE, fin⟩ := h
    obtain ⟨e0, e1, e2, e3, e4, e5, e6, e7, e8, e9, e10, e11, rfl, E0, E1, E2, E3, E4, E5, E6, E7, E8, E9, E10, E11⟩ := ErrAll.twelve hE
    refine ⟨_, pss_cons (ps_set (i := 1) scFields.nd rfl (Or.inl rfl) (pe_lst (pa_cons (pe_getX (pe_ix ix_list (pv 0) pe_int (fun _ _ => rfl))) (pa_cons (pe_getX (pe_ix ix_list (pv 0) pe_int (fun _ _ => rfl))) (pa_cons (pe_getX (pe_ix ix_list (pv 0) pe_int (fun _ _ => rfl))) (pa_cons (pe_getX (pe_ix ix_list (pv 0) pe_int (fun _ _ => rfl))) (pa_cons (pe_getX (pe_ix ix_list (pv 0) pe_int (fun _ _ => rfl))) (pa_cons (pe_getX (pe_ix ix_list (pv 0) pe_int (fun _ _ => rfl))) (pa_cons (pe_getX (pe_ix ix_list (pv 0) pe_int (fun _ _ => rfl))) pa_nil))))))))) (pss_one (ps_ret (pe_op op_cat (pv 1) (pe_lst (pa_cons (pe_getX (pe_ix ix_list (pv 0) pe_int (fun _ _ => rfl))) (pa_cons (pe_getX (pe_ix ix_list (pv 0) pe_int (fun _ _ => rfl))) (pa_cons (pe_getX (pe_ix ix_list (pv 0) pe_int (fun _ _ => rfl))) (pa_cons (pe_getX (pe_ix ix_list (pv 0) pe_int (fun _ _ => rfl))) (pa_cons (pe_getX (pe_ix ix_list (pv 0) pe_int (fun _ _ => rfl))) pa_nil))))))))), ?_⟩
    obtain ⟨d0, a0, b0⟩ := E0.dict (by intro z; cases z)
    refine ⟨_, rfl, r, _, _, .ref e0, rfl, rfl, SqL.of hr0, rfl, e0, c0, d0, _, x0, rfl, T.k0.rd, T.k0.no, a0, b0, (by simp [List.lookup]), ?_⟩
    obtain ⟨d1, a1, b1⟩ := E1.dict (by intro z; cases z)
    refine ⟨_, rfl, r, _, _, .ref e1, rfl, rfl, SqL.of hr0, rfl, e1, c1, d1, _, x1, rfl, T.k1.rd, T.k1.no, a1, b1, (by simp [List.lookup]), ?_⟩
    obtain ⟨d2, a2, b2⟩ := E2.dict (by intro z; cases z)
    refine ⟨_, rfl, r, _, _, .ref e2, rfl, rfl, SqL.of hr0, rfl, e2, c2, d2, _, x2, rfl, T.k2.rd, T.k2.no, a2, b2, (by simp [List.lookup]), ?_⟩
    obtain ⟨d3, a3, b3⟩ := E3.dict (by intro z; cases z)
    refine ⟨_, rfl, r, _, _, .ref e3, rfl, rfl, SqL.of hr0, rfl, e3, c3, d3, _, x3, rfl, T.k3.rd, T.k3.no, a3, b3, (by simp [List.lookup]), ?_⟩
    obtain ⟨d4, a4, b4⟩ := E4.dict (by intro z; cases z)
    refine ⟨_, rfl, r, _, _, .ref e4, rfl, rfl, SqL.of hr0, rfl, e4, c4, d4, _, x4, rfl, T.k4.rd, T.k4.no, a4, b4, (by simp [List.lookup]), ?_⟩
    obtain ⟨d5, a5, b5⟩ := E5.dict (by intro z; cases z)
    refine ⟨_, rfl, r, _, _, .ref e5, rfl, rfl, SqL.of hr0, rfl, e5, c5, d5, _, x5, rfl, T.k5.rd, T.k5.no, a5, b5, (by simp [List.lookup]), ?_⟩
    obtain ⟨d7, a7, b7⟩ := E7.dict (by intro z; cases z)
    refine ⟨_, rfl, r, _, _, .ref e7, rfl, rfl, SqL.of hr0, rfl, e7, c7, d7, _, x6, rfl, T.k7.rd, T.k7.no, a7, b7, (by simp [List.lookup]), ?_⟩
    refine ⟨(by rw [sizeLine_eq]; show 7 ≤ _; omega), fun l nl => ?_⟩
    have S1 : Same H (upd H l (.lst [x0, x1, x2, x3, x4, x5, x6])) := fun b o e => by rw [upd_ne (ne_of_none e nl)]; exact e
    have hr1 := S1 _ _ hr0
    have E8y := E8.same S1
    have E9y := E9.same S1
    have E10y := E10.same S1
    have E11y := E11.same S1
    refine ⟨_, rfl, ?_⟩
    obtain ⟨d8y, a8y, b8y⟩ := E8y.dict (by intro z; cases z)
    refine ⟨_, rfl, r, _, _, .ref e8, rfl, rfl, SqL.of hr1, rfl, e8, c8, d8y, _, x7, rfl, T.k8.rd, T.k8.no, a8y, b8y, (by simp [List.lookup]), ?_⟩
    obtain ⟨d9y, a9y, b9y⟩ := E9y.dict (by intro z; cases z)
    refine ⟨_, rfl, r, _, _, .ref e9, rfl, rfl, SqL.of hr1, rfl, e9, c9, d9y, _, x7, rfl, T.k9.rd, T.k9.no, a9y, b9y, (by rw [lookup_put, if_neg (by decide), lookup_put, if_pos rfl]), ?_⟩
    obtain ⟨d10y, a10y, b10y⟩ := E10y.dict (by intro z; cases z)
    refine ⟨_, rfl, r, _, _, .ref e10, rfl, rfl, SqL.of hr1, rfl, e10, c10, d10y, _, x7, rfl, T.k10.rd, T.k10.no, a10y, b10y, (by simp [List.lookup]), ?_⟩
    obtain ⟨d11y, a11y, b11y⟩ := E11y.dict (by intro z; cases z)
    refine ⟨_, rfl, r, _, _, .ref e11, rfl, rfl, SqL.of hr1, rfl, e11, c11, d11y, _, x7, rfl, T.k11.rd, T.k11.no, a11y, b11y, (by simp [List.lookup]), ?_⟩
    refine ⟨_, rfl, r, _, _, .ref e9, rfl, rfl, SqL.of hr1, rfl, e9, c9, d9y, _, x8, rfl, T.k9.rd, T.k9.no2, a9y, b9y, (by simp [List.lookup]), ?_⟩
    refine ⟨(by rw [sizeLine_eq]; show 5 ≤ _; omega), fun m nm => ?_⟩
    have S2 : Same (upd H l (.lst [x0, x1, x2, x3, x4, x5, x6])) (upd (upd H l (.lst [x0, x1, x2, x3, x4, x5, x6])) m (.lst [x7, x7, x7, x7, x8])) := fun b o e => by rw [upd_ne (ne_of_none e nm)]; exact e
    refine ⟨_, _, _, _, rfl, rfl, S2 _ _ upd_same, upd_same, (by rw [sizeLine_eq]; show 12 ≤ _; omega), fun q nq => ?_⟩
    have S3 : Same (upd (upd H l (.lst [x0, x1, x2, x3, x4, x5, x6])) m (.lst [x7, x7, x7, x7, x8])) (upd (upd (upd H l (.lst [x0, x1, x2, x3, x4, x5, x6])) m (.lst [x7, x7, x7, x7, x8])) q (.lst [x0, x1, x2, x3, x4, x5, x6, x7, x7, x7, x7, x8])) := fun b o e => by rw [upd_ne (ne_of_none e nq)]; exact e
    exact fin q _ ((S1.trans S2).trans S3) ((S1.trans S2).free nq) upd_same
def rowOf (i : Nat) : List V := [.bl (tab i 0), .bl (tab i 1), .bl (tab i 2), .bl (tab i 3), .bl (tab i 4), .bl (tab i 5), .bl (tab i 6), .bl (tab i 7), .bl (tab i 8), .bl (tab i 9), .bl (tab i 10), .bl (tab i 11)]
def spClasses (K : PySem.W.Frag) (c0 c1 c2 c3 c4 c5 c6 c7 c8 c9 c10 c11 cL : Addr) : Sp := fun vs H Q _ => ∃ (e C : Addr) (fs : List (Str × V)) (i : Nat), vs = [.ref e] ∧ ErrAt H C e fs ∧ ReadC K C ∧ KitRow K C i c0 c1 c2 c3 c4 c5 c6 c7 c8 c9 c10 c11 cL ∧
  ∀ (q : Addr) (H' : Hp), Same H H' → H q = none → H' q = some (.lst (rowOf i)) → Q (.ref q) H'
theorem scClasses : FnScope ["one", "found"] ["one"] (defScope sClasses) := ⟨rfl, rfl, rfl, by decide +kernel, rfl, by decide +kernel, by decide +kernel⟩
theorem ok_classes {f : Addr} {fd : FuncData} (F : Fun K "_law_classes" "_law_classes" sClasses f fd) (T : Kinds P w K mg c0 c1 c2 c3 c4 c5 c6 c7 c8 c9 c10 c11) (N : Names mg) :
    FnOk P w K mg base CX0 1 f fd ["one"] (spClasses K c0 c1 c2 c3 c4 c5 c6 c7 c8 c9 c10 c11 cL) := by
  refine F.ok scClasses (fun vs H Q E h => ?_) (fun cdv A outer s H vs Q E hr h => ?_)
  · obtain ⟨e, C, fs, i, rfl, _⟩ := h
    rfl
  · obtain ⟨e, C, fs, i, rfl, E0, RC, KT, fin⟩ := h
    refine ⟨_, (pss_cons (ps_set (i := 1) scClasses.nd rfl (Or.inl rfl) (pe_lst (pa_cons (pe_callB call_isX (by rfl) N.isi (by decide +kernel) (pa_cons (pv 0) (pa_cons (pe_glob (v := .ref c0) rfl T.k0.gC rfl) pa_nil))) (pa_cons (pe_callB call_isX (by rfl) N.isi (by decide +kernel) (pa_cons (pv 0) (pa_cons (pe_glob (v := .ref c1) rfl T.k1.gC rfl) pa_nil))) (pa_cons (pe_callB call_isX (by rfl) N.isi (by decide +kernel) (pa_cons (pv 0) (pa_cons (pe_glob (v := .ref c2) rfl T.k2.gC rfl) pa_nil))) (pa_cons (pe_callB call_isX (by rfl) N.isi (by decide +kernel) (pa_cons (pv 0) (pa_cons (pe_glob (v := .ref c3) rfl T.k3.gC rfl) pa_nil))) pa_nil))))))
      (pss_cons (ps_set (i := 1) scClasses.nd rfl (Or.inl rfl) (pe_op op_cat (pv 1) (pe_lst (pa_cons (pe_callB call_isX (by rfl) N.isi (by decide +kernel) (pa_cons (pv 0) (pa_cons (pe_glob (v := .ref c4) rfl T.k4.gC rfl) pa_nil))) (pa_cons (pe_callB call_isX (by rfl) N.isi (by decide +kernel) (pa_cons (pv 0) (pa_cons (pe_glob (v := .ref c5) rfl T.k5.gC rfl) pa_nil))) (pa_cons (pe_callB call_isX (by rfl) N.isi (by decide +kernel) (pa_cons (pv 0) (pa_cons (pe_glob (v := .ref c6) rfl T.k6.gC rfl) pa_nil))) pa_nil))))))
      (pss_cons (ps_set (i := 1) scClasses.nd rfl (Or.inl rfl) (pe_op op_cat (pv 1) (pe_lst (pa_cons (pe_callB call_isX (by rfl) N.isi (by decide +kernel) (pa_cons (pv 0) (pa_cons (pe_glob (v := .ref c7) rfl T.k7.gC rfl) pa_nil))) (pa_cons (pe_callB call_isX (by rfl) N.isi (by decide +kernel) (pa_cons (pv 0) (pa_cons (pe_glob (v := .ref c8) rfl T.k8.gC rfl) pa_nil))) (pa_cons (pe_callB call_isX (by rfl) N.isi (by decide +kernel) (pa_cons (pv 0) (pa_cons (pe_glob (v := .ref c9) rfl T.k9.gC rfl) pa_nil))) pa_nil))))))
      (pss_one (ps_ret (pe_op op_cat (pv 1) (pe_lst (pa_cons (pe_callB call_isX (by rfl) N.isi (by decide +kernel) (pa_cons (pv 0) (pa_cons (pe_glob (v := .ref c10) rfl T.k10.gC rfl) pa_nil))) (pa_cons (pe_callB call_isX (by rfl) N.isi (by decide +kernel) (pa_cons (pv 0) (pa_cons (pe_glob (v := .ref c11) rfl T.k11.gC rfl) pa_nil))) pa_nil))))))))), ?_⟩
    refine ⟨_, rfl, e, C, fs, _, _, _, rfl, RC, E0, .own c0, KT.k0, ?_⟩
    refine ⟨_, rfl, e, C, fs, _, _, _, rfl, RC, E0, .own c1, KT.k1, ?_⟩
    refine ⟨_, rfl, e, C, fs, _, _, _, rfl, RC, E0, .own c2, KT.k2, ?_⟩
    refine ⟨_, rfl, e, C, fs, _, _, _, rfl, RC, E0, .own c3, KT.k3, ?_⟩
    refine ⟨(by rw [sizeLine_eq]; show 4 ≤ _; omega), fun l0 nl0 => ?_⟩
    have S1 : Same H (upd H l0 (.lst [.bl (tab i 0), .bl (tab i 1), .bl (tab i 2), .bl (tab i 3)])) := fun b o e => by rw [upd_ne (ne_of_none e nl0)]; exact e
    have E1 := E0.same S1
    refine ⟨_, rfl, ?_⟩
    refine ⟨_, rfl, e, C, fs, _, _, _, rfl, RC, E1, .own c4, KT.k4, ?_⟩
    refine ⟨_, rfl, e, C, fs, _, _, _, rfl, RC, E1, .own c5, KT.k5, ?_⟩
    refine ⟨_, rfl, e, C, fs, _, _, _, rfl, RC, E1, .own c6, KT.k6, ?_⟩
    refine ⟨(by rw [sizeLine_eq]; show 3 ≤ _; omega), fun l1 nl1 => ?_⟩
    have S2 : Same (upd H l0 (.lst [.bl (tab i 0), .bl (tab i 1), .bl (tab i 2), .bl (tab i 3)])) (upd (upd H l0 (.lst [.bl (tab i 0), .bl (tab i 1), .bl (tab i 2), .bl (tab i 3)])) l1 (.lst [.bl (tab i 4), .bl (tab i 5), .bl (tab i 6)])) := fun b o e => by rw [upd_ne (ne_of_none e nl1)]; exact e
    have E2 := E1.same S2
    refine ⟨_, _, _, _, rfl, rfl, S2 _ _ (upd_same : (upd H l0 (.lst [.bl (tab i 0), .bl (tab i 1), .bl (tab i 2), .bl (tab i 3)])) l0 = some (.lst [.bl (tab i 0), .bl (tab i 1), .bl (tab i 2), .bl (tab i 3)])), upd_same, (by rw [sizeLine_eq]; show 7 ≤ _; omega), fun j1 nj1 => ?_⟩
    have S3 : Same (upd (upd H l0 (.lst [.bl (tab i 0), .bl (tab i 1), .bl (tab i 2), .bl (tab i 3)])) l1 (.lst [.bl (tab i 4), .bl (tab i 5), .bl (tab i 6)])) (upd (upd (upd H l0 (.lst [.bl (tab i 0), .bl (tab i 1), .bl (tab i 2), .bl (tab i 3)])) l1 (.lst [.bl (tab i 4), .bl (tab i 5), .bl (tab i 6)])) j1 (.lst [.bl (tab i 0), .bl (tab i 1), .bl (tab i 2), .bl (tab i 3), .bl (tab i 4), .bl (tab i 5), .bl (tab i 6)])) := fun b o e => by rw [upd_ne (ne_of_none e nj1)]; exact e
    have E3 := E2.same S3
    refine ⟨_, rfl, ?_⟩
    refine ⟨_, rfl, e, C, fs, _, _, _, rfl, RC, E3, .own c7, KT.k7, ?_⟩
    refine ⟨_, rfl, e, C, fs, _, _, _, rfl, RC, E3, .own c8, KT.k8, ?_⟩
    refine ⟨_, rfl, e, C, fs, _, _, _, rfl, RC, E3, .own c9, KT.k9, ?_⟩
    refine ⟨(by rw [sizeLine_eq]; show 3 ≤ _; omega), fun l2 nl2 => ?_⟩
    have S4 : Same (upd (upd (upd H l0 (.lst [.bl (tab i 0), .bl (tab i 1), .bl (tab i 2), .bl (tab i 3)])) l1 (.lst [.bl (tab i 4), .bl (tab i 5), .bl (tab i 6)])) j1 (.lst [.bl (tab i 0), .bl (tab i 1), .bl (tab i 2), .bl (tab i 3), .bl (tab i 4), .bl (tab i 5), .bl (tab i 6)])) (upd (upd (upd (upd H l0 (.lst [.bl (tab i 0), .bl (tab i 1), .bl (tab i 2), .bl (tab i 3)])) l1 (.lst [.bl (tab i 4), .bl (tab i 5), .bl (tab i 6)])) j1 (.lst [.bl (tab i 0), .bl (tab i 1), .bl (tab i 2), .bl (tab i 3), .bl (tab i 4), .bl (tab i 5), .bl (tab i 6)])) l2 (.lst [.bl (tab i 7), .bl (tab i 8), .bl (tab i 9)])) := fun b o e => by rw [upd_ne (ne_of_none e nl2)]; exact e
    have E4 := E3.same S4
    refine ⟨_, _, _, _, rfl, rfl, S4 _ _ (upd_same : (upd (upd (upd H l0 (.lst [.bl (tab i 0), .bl (tab i 1), .bl (tab i 2), .bl (tab i 3)])) l1 (.lst [.bl (tab i 4), .bl (tab i 5), .bl (tab i 6)])) j1 (.lst [.bl (tab i 0), .bl (tab i 1), .bl (tab i 2), .bl (tab i 3), .bl (tab i 4), .bl (tab i 5), .bl (tab i 6)])) j1 = some (.lst [.bl (tab i 0), .bl (tab i 1), .bl (tab i 2), .bl (tab i 3), .bl (tab i 4), .bl (tab i 5), .bl (tab i 6)])), upd_same, (by rw [sizeLine_eq]; show 10 ≤ _; omega), fun j2 nj2 => ?_⟩
    have S5 : Same (upd (upd (upd (upd H l0 (.lst [.bl (tab i 0), .bl (tab i 1), .bl (tab i 2), .bl (tab i 3)])) l1 (.lst [.bl (tab i 4), .bl (tab i 5), .bl (tab i 6)])) j1 (.lst [.bl (tab i 0), .bl (tab i 1), .bl (tab i 2), .bl (tab i 3), .bl (tab i 4), .bl (tab i 5), .bl (tab i 6)])) l2 (.lst [.bl (tab i 7), .bl (tab i 8), .bl (tab i 9)])) (upd (upd (upd (upd (upd H l0 (.lst [.bl (tab i 0), .bl (tab i 1), .bl (tab i 2), .bl (tab i 3)])) l1 (.lst [.bl (tab i 4), .bl (tab i 5), .bl (tab i 6)])) j1 (.lst [.bl (tab i 0), .bl (tab i 1), .bl (tab i 2), .bl (tab i 3), .bl (tab i 4), .bl (tab i 5), .bl (tab i 6)])) l2 (.lst [.bl (tab i 7), .bl (tab i 8), .bl (tab i 9)])) j2 (.lst [.bl (tab i 0), .bl (tab i 1), .bl (tab i 2), .bl (tab i 3), .bl (tab i 4), .bl (tab i 5), .bl (tab i 6), .bl (tab i 7), .bl (tab i 8), .bl (tab i 9)])) := fun b o e => by rw [upd_ne (ne_of_none e nj2)]; exact e
    have E5 := E4.same S5
    refine ⟨_, rfl, ?_⟩
    refine ⟨_, rfl, e, C, fs, _, _, _, rfl, RC, E5, .own c10, KT.k10, ?_⟩
    refine ⟨_, rfl, e, C, fs, _, _, _, rfl, RC, E5, .own c11, KT.k11, ?_⟩
    refine ⟨(by rw [sizeLine_eq]; show 2 ≤ _; omega), fun l3 nl3 => ?_⟩
    have S6 : Same (upd (upd (upd (upd (upd H l0 (.lst [.bl (tab i 0), .bl (tab i 1), .bl (tab i 2), .bl (tab i 3)])) l1 (.lst [.bl (tab i 4), .bl (tab i 5), .bl (tab i 6)])) j1 (.lst [.bl (tab i 0), .bl (tab i 1), .bl (tab i 2), .bl (tab i 3), .bl (tab i 4), .bl (tab i 5), .bl (tab i 6)])) l2 (.lst [.bl (tab i 7), .bl (tab i 8), .bl (tab i 9)])) j2 (.lst [.bl (tab i 0), .bl (tab i 1), .bl (tab i 2), .bl (tab i 3), .bl (tab i 4), .bl (tab i 5), .bl (tab i 6), .bl (tab i 7), .bl (tab i 8), .bl (tab i 9)])) (upd (upd (upd (upd (upd (upd H l0 (.lst [.bl (tab i 0), .bl (tab i 1), .bl (tab i 2), .bl (tab i 3)])) l1 (.lst [.bl (tab i 4), .bl (tab i 5), .bl (tab i 6)])) j1 (.lst [.bl (tab i 0), .bl (tab i 1), .bl (tab i 2), .bl (tab i 3), .bl (tab i 4), .bl (tab i 5), .bl (tab i 6)])) l2 (.lst [.bl (tab i 7), .bl (tab i 8), .bl (tab i 9)])) j2 (.lst [.bl (tab i 0), .bl (tab i 1), .bl (tab i 2), .bl (tab i 3), .bl (tab i 4), .bl (tab i 5), .bl (tab i 6), .bl (tab i 7), .bl (tab i 8), .bl (tab i 9)])) l3 (.lst [.bl (tab i 10), .bl (tab i 11)])) := fun b o e => by rw [upd_ne (ne_of_none e nl3)]; exact e
    have E6 := E5.same S6
    refine ⟨_, _, _, _, rfl, rfl, S6 _ _ (upd_same : (upd (upd (upd (upd (upd H l0 (.lst [.bl (tab i 0), .bl (tab i 1), .bl (tab i 2), .bl (tab i 3)])) l1 (.lst [.bl (tab i 4), .bl (tab i 5), .bl (tab i 6)])) j1 (.lst [.bl (tab i 0), .bl (tab i 1), .bl (tab i 2), .bl (tab i 3), .bl (tab i 4), .bl (tab i 5), .bl (tab i 6)])) l2 (.lst [.bl (tab i 7), .bl (tab i 8), .bl (tab i 9)])) j2 (.lst [.bl (tab i 0), .bl (tab i 1), .bl (tab i 2), .bl (tab i 3), .bl (tab i 4), .bl (tab i 5), .bl (tab i 6), .bl (tab i 7), .bl (tab i 8), .bl (tab i 9)])) j2 = some (.lst [.bl (tab i 0), .bl (tab i 1), .bl (tab i 2), .bl (tab i 3), .bl (tab i 4), .bl (tab i 5), .bl (tab i 6), .bl (tab i 7), .bl (tab i 8), .bl (tab i 9)])), upd_same, (by rw [sizeLine_eq]; show 12 ≤ _; omega), fun j3 nj3 => ?_⟩
    have S7 : Same (upd (upd (upd (upd (upd (upd H l0 (.lst [.bl (tab i 0), .bl (tab i 1), .bl (tab i 2), .bl (tab i 3)])) l1 (.lst [.bl (tab i 4), .bl (tab i 5), .bl (tab i 6)])) j1 (.lst [.bl (tab i 0), .bl (tab i 1), .bl (tab i 2), .bl (tab i 3), .bl (tab i 4), .bl (tab i 5), .bl (tab i 6)])) l2 (.lst [.bl (tab i 7), .bl (tab i 8), .bl (tab i 9)])) j2 (.lst [.bl (tab i 0), .bl (tab i 1), .bl (tab i 2), .bl (tab i 3), .bl (tab i 4), .bl (tab i 5), .bl (tab i 6), .bl (tab i 7), .bl (tab i 8), .bl (tab i 9)])) l3 (.lst [.bl (tab i 10), .bl (tab i 11)])) (upd (upd (upd (upd (upd (upd (upd H l0 (.lst [.bl (tab i 0), .bl (tab i 1), .bl (tab i 2), .bl (tab i 3)])) l1 (.lst [.bl (tab i 4), .bl (tab i 5), .bl (tab i 6)])) j1 (.lst [.bl (tab i 0), .bl (tab i 1), .bl (tab i 2), .bl (tab i 3), .bl (tab i 4), .bl (tab i 5), .bl (tab i 6)])) l2 (.lst [.bl (tab i 7), .bl (tab i 8), .bl (tab i 9)])) j2 (.lst [.bl (tab i 0), .bl (tab i 1), .bl (tab i 2), .bl (tab i 3), .bl (tab i 4), .bl (tab i 5), .bl (tab i 6), .bl (tab i 7), .bl (tab i 8), .bl (tab i 9)])) l3 (.lst [.bl (tab i 10), .bl (tab i 11)])) j3 (.lst [.bl (tab i 0), .bl (tab i 1), .bl (tab i 2), .bl (tab i 3), .bl (tab i 4), .bl (tab i 5), .bl (tab i 6), .bl (tab i 7), .bl (tab i 8), .bl (tab i 9), .bl (tab i 10), .bl (tab i 11)])) := fun b o e => by rw [upd_ne (ne_of_none e nj3)]; exact e
    have E7 := E6.same S7
    exact fin j3 _ ((((((S1.trans S2).trans S3).trans S4).trans S5).trans S6).trans S7) ((((((S1.trans S2).trans S3).trans S4).trans S5).trans S6).free nj3) upd_same
end
end K86

set_option Elab.async false
set_option linter.all false
set_option maxRecDepth 100000
set_option maxHeartbeats 8000000
namespace K86
open PySem PySem.Spec PyProof.Rows L2
section
variable {P : Program} {w : World} {K : PySem.W.Frag} {mg : Str → Option Value} {base : Heap} {c0 c1 c2 c3 c4 c5 c6 c7 c8 c9 c10 c11 cL : Addr}
def spKinds (K : PySem.W.Frag) (c0 c1 c2 c3 c4 c5 c6 c7 c8 c9 c10 c11 cL : Addr) : Sp := fun vs H Q _ => ∃ (e C : Addr) (fs : List (Str × V)) (i : Nat), vs = [.int (i : Int), .ref e] ∧ i < 12 ∧ ErrAt H C e fs ∧ ReadC K C ∧ KitRow K C i c0 c1 c2 c3 c4 c5 c6 c7 c8 c9 c10 c11 cL ∧
  ∀ (H' : Hp), Same H H' → Q (.bl true) H'
abbrev nKinds : List Str := ["at", "one", "told", "spot"]
theorem scKinds : FnScope nKinds ["at", "one"] (defScope sKinds) := ⟨rfl, rfl, rfl, by decide +kernel, rfl, by decide +kernel, by decide +kernel⟩
theorem tab_self (i : Nat) : tab i i = true := by simp [tab]
theorem row_at {i j : Nat} (_ : i < 12) (hj : j < 12) : atI (rowOf i) (j : Int) = some (.bl (tab i j)) := by
  refine atI_nat ?_
  rcases j with _ | _ | _ | _ | _ | _ | _ | _ | _ | _ | _ | _ | j <;> first | rfl | omega
theorem same_upd {H : Hp} {a : Addr} {o : HO} (n : H a = none) : Same H (upd H a o) := fun b u e => by
  rw [upd_ne (ne_of_none e n)]
  exact e
theorem spot_eq {i j : Nat} (hj : j < 8) : (!decide (V.bl (tab i j) = V.bl (decide (V.int (0 + (j : Int)) = V.int (i : Int))))) = false := by
  have e : (decide (V.int (0 + (j : Int)) = V.int (i : Int))) = (i == j) := by
    rw [Int.zero_add, Bool.eq_iff_iff, decide_eq_true_iff, beq_iff_eq, V.int.injEq]
    omega
  have t : tab i j = (i == j) := by
    unfold tab
    rw [show (j == 8) = false from beq_eq_false_iff_ne.mpr (by omega), Bool.false_and, Bool.or_false]
  rw [e, t, decide_eq_true rfl]
  rfl
theorem eight_eq {i : Nat} (hi : i < 12) : (!decide (V.bl (tab i 8) = V.bl (decide ((7 : Int) < (i : Int))))) = false := by
  rcases i with _ | _ | _ | _ | _ | _ | _ | _ | _ | _ | _ | _ | i <;> first | rfl | decide | omega
def bits (i k : Nat) : List V := (List.range k).map fun (j : Nat) => V.bl (decide (V.int (9 + (j : Int)) = V.int (i : Int)))
theorem bits_len (i k : Nat) : (bits i k).length = k := by simp [bits]
theorem bits_succ (i k : Nat) : bits i k ++ [V.bl (decide (V.int (9 + (k : Int)) = V.int (i : Int)))] = bits i (k + 1) := by
  simp [bits, List.range_succ]
theorem bits_three {i : Nat} (hi : i < 12) : bits i 3 = [.bl (tab i 9), .bl (tab i 10), .bl (tab i 11)] := by
  rcases i with _ | _ | _ | _ | _ | _ | _ | _ | _ | _ | _ | _ | i <;> first | rfl | decide | omega
theorem cut_row (i : Nat) : cutV (rowOf i) (some 9) none = [.bl (tab i 9), .bl (tab i 10), .bl (tab i 11)] := rfl
theorem shaped3 (a b c : Bool) : SeqAt.shaped (.list [.bool a, .bool b, .bool c]) = true := by cases a <;> cases b <;> cases c <;> decide +kernel
theorem eqv3 (a b c : Bool) : PyData.eqv (.list [.bool a, .bool b, .bool c]) (.list [.bool a, .bool b, .bool c]) = true := by cases a <;> cases b <;> cases c <;> decide +kernel
theorem ok_kinds {f fC : Addr} {fd fdC : FuncData} (F : Fun K "_law_kinds_right" "_law_kinds_right" sKinds f fd) (T : Kinds P w K mg c0 c1 c2 c3 c4 c5 c6 c7 c8 c9 c10 c11) (N : Names mg) (gL : mg "LimitError" = some (.ref cL))
    (FC : Fun K "_law_classes" "_law_classes" sClasses fC fdC) (bC : Binds K fdC ["one"] []) (mC : mg "_law_classes" = some (.ref fC)) :
    FnOk P w K mg base CX0 2 f fd ["at", "one"] (spKinds K c0 c1 c2 c3 c4 c5 c6 c7 c8 c9 c10 c11 cL) := by
  have GC : FnOk P w K mg base CX0 1 fC fdC ["one"] (spClasses K c0 c1 c2 c3 c4 c5 c6 c7 c8 c9 c10 c11 cL) := ok_classes FC T N
  refine F.ok scKinds (fun vs H Q E h => ?_) (fun cdv A outer s H vs Q E hr h => ?_)
  · obtain ⟨e, C, fs, i, rfl, _⟩ := h
    rfl
  · obtain ⟨e, C, fs, i, rfl, hi, E0, RC, KT, fin⟩ := h
    refine ⟨_, pss_cons (ps_set (i := 2) scKinds.nd rfl (Or.inr rfl) (pe_call GC hr rfl mC FC.kp bC .nil pass0 (pa_cons (pv 1) pa_nil)))
      (pss_cons (ps_if (PW.pt (pw_or (pt_not (pt_val (pe_ix ix_list (pv 2) (pv 0) (fun _ _ => rfl)))) (pw_or1 (pt_cmpR (op_neD hr.units)
          (pe_lc (own := [("spot", 3)]) (g := gName 3) (tt := tTest (tOp rNe (tOp (rIxL K) (tVar 2) (tVar 3)) (tOp rEq (tVar 3) (tVar 0)))) (te := tVar 3) rfl scKinds.nd (pi_range1 rfl N.range (pa_cons pe_int pa_nil)) (blkOk_by (own := [("spot", 3)]) (N := nKinds) (sc := defScope sKinds) (by decide +kernel)) (fun _ _ _ _ _ => pg_name (i := 3) scKinds.nd rfl (Or.inl rfl))
            (fun _ _ _ _ _ => pts_one (pt_cmpR op_ne (pe_ix ix_list (pv 2) (pv 3) (fun _ _ => rfl)) (pe_cmpR op_eq (pv 3) (pv 0) (nomark _)) (nomark _))) (fun _ _ _ _ _ => pv 3))
          (pe_lst pa_nil) (nomark _))))) (pss_one (ps_ret pe_bl)) pss_nil)
      (pss_cons (ps_if (PW.pt (pw_or (pt_cmpR op_ne (pe_ix ix_list (pv 2) pe_int (fun _ _ => rfl)) (pe_cmpR op_gt (pv 0) pe_int (nomark _)) (nomark _)) (pw_or1 (pt_cmpR (op_neD hr.units)
          (pe_slice sl_list (pv 2) (po_some pe_int) po_none)
          (pe_lc (own := [("spot", 3)]) (g := gName 3) (tt := tYes) (te := tOp rEq (tVar 3) (tVar 0)) rfl scKinds.nd (pi_range2 rfl N.range (pa_cons pe_int (pa_cons pe_int pa_nil))) (blkOk_by (own := [("spot", 3)]) (N := nKinds) (sc := defScope sKinds) (by decide +kernel)) (fun _ _ _ _ _ => pg_name (i := 3) scKinds.nd rfl (Or.inl rfl))
            (fun _ _ _ _ _ => pts_nil) (fun _ _ _ _ _ => pe_cmpR op_eq (pv 3) (pv 0) (nomark _))) (nomark _))))) (pss_one (ps_ret pe_bl)) pss_nil)
      (pss_one (ps_ret (pe_and (pe_callB call_isX (by rfl) N.isi (by decide +kernel) (pa_cons (pv 1) (pa_cons (pe_glob (v := .ref cL) rfl gL rfl) pa_nil)))
        (pe_one (pe_callB call_isX (by rfl) N.isi (by decide +kernel) (pa_cons (pv 1) (pa_cons (pe_bltn (v := .ty "ValueError") (by rfl) N.ve (by decide +kernel) rfl) pa_nil))))))))), ?_⟩
    refine ⟨_, rfl, e, C, fs, i, rfl, E0, RC, KT, fun q H1 S1 n1 hq => ?_⟩
    refine ⟨_, rfl, _, rfl, q, _, _, _, rfl, rfl, SqL.of hq, row_at hi hi, _, rfl, ?_⟩
    rw [tab_self]
    refine iteF ?_
    refine ⟨8, rfl, by decide, by decide, fun D hD => lc_range (lo := 0) (n := 8) (fun _ G => Same H1 G ∧ G D = some (.lst [])) ⟨same_upd hD, upd_same⟩ ?_ ?_⟩
    · rintro j G hj ⟨SG, gD⟩
      refine ⟨rfl, _, rfl, _, rfl, q, _, _, _, rfl, rfl, SqL.of (SG _ _ hq), (by rw [Int.zero_add]; exact row_at hi (by omega)), _, rfl, _, rfl, rfl, rfl, _, rfl, ?_⟩
      rw [spot_eq hj]
      exact iteF ⟨SG, gD⟩
    · rintro G ⟨SG, gD⟩
      refine ⟨(by rw [sizeLine_eq]; show 0 ≤ _; omega), fun l hl => ?_⟩
      refine ⟨.list [], .list [], .lst (SqL.of (by rw [upd_ne (ne_of_none gD hl)]; exact gD)) .nil, .lst (SqL.of upd_same) .nil, rfl, rfl, _, rfl, ?_⟩
      refine iteF ?_
      have S2 : Same H1 (upd G l (.lst [])) := SG.trans (same_upd hl)
      have hq2 := S2 _ _ hq
      refine ⟨_, rfl, q, _, _, _, rfl, rfl, SqL.of hq2, row_at hi (by decide : 8 < 12), _, rfl, _, _, rfl, rfl, rfl, _, rfl, ?_⟩
      rw [eight_eq hi]
      refine iteF ?_
      refine ⟨_, rfl, _, rfl, q, _, rfl, SqL.of hq2, fun p hp => ?_⟩
      refine ⟨9, 12, rfl, ⟨by decide, by decide, by decide, by decide⟩, fun D2 hD2 => lc_range (lo := 9) (n := 3)
        (fun k G2 => Same (upd G l (.lst [])) G2 ∧ G2 p = some (.lst (cutV (rowOf i) (some 9) none)) ∧ G2 D2 = some (.lst (bits i k))) ⟨(same_upd hp).trans (same_upd hD2), same_upd hD2 _ _ upd_same, upd_same⟩ ?_ ?_⟩
      · rintro j G2 hj ⟨SG2, gp, gD2⟩
        refine ⟨rfl, ?_⟩
        unfold tYes
        dsimp only
        rw [if_pos rfl]
        refine ⟨_, rfl, _, rfl, rfl, _, gD2, (by rw [bits_len, sizeLine_eq]; omega), fun b o e => ?_, ?_, ?_⟩
        · rw [upd_ne (fun z => ?_)]
          · exact SG2 _ _ e
          · have w1 := (same_upd hp).free hD2
            rw [z, w1] at e
            cases e
        · rw [upd_ne (fun z => ?_)]
          · exact gp
          · rw [z, upd_same] at hD2
            cases hD2
        · rw [upd_same, bits_succ]
      · rintro G2 ⟨SG2, gp, gD2⟩
        rw [cut_row] at gp
        rw [bits_three hi] at gD2
        refine ⟨.list [.bool (tab i 9), .bool (tab i 10), .bool (tab i 11)], .list [.bool (tab i 9), .bool (tab i 10), .bool (tab i 11)], .lst (SqL.of gp) (.cons (.bl _) (.cons (.bl _) (.cons (.bl _) .nil))),
          .lst (SqL.of gD2) (.cons (.bl _) (.cons (.bl _) (.cons (.bl _) .nil))), shaped3 _ _ _, shaped3 _ _ _, _, rfl, ?_⟩
        rw [eqv3]
        refine iteF ?_
        have S3 : Same H G2 := (S1.trans S2).trans SG2
        have E3 := E0.same S3
        exact ⟨_, rfl, e, C, fs, _, _, _, rfl, RC, E3, .own cL, KT.kL, true, rfl, iteT ⟨_, rfl, e, C, fs, _, _, _, rfl, RC, E3, .ty _, KT.kV, fin _ S3⟩⟩
end
end K86

set_option Elab.async false
set_option linter.all false
set_option maxRecDepth 100000
set_option maxHeartbeats 8000000
namespace K86
open PySem PySem.Spec PyProof.Rows L2
/-- a comprehension over enumerate of a list -/
theorem lc_enum {K : PySem.W.Frag} {a : Addr} {xs : List V} {g : TG} {tt : TT} {te : TE} {vs : List Nat} {σ : L2.St} {H1 : Hp} {D : Addr} {Qd : Hp → Prop} (Pv : Nat → Hp → Prop) (h0 : Pv 0 (upd H1 D (.lst [])))
    (hl : ∀ i H, Pv i H → SqL K H a xs)
    (hs : ∀ (i : Nat) (x : V) (T : Addr) (H : Hp), xs[i]? = some x → Pv i H → H T = none → g (.ref T) (wipe σ vs) (upd H T (.tup [.int (i : Int), x])) fun σ2 H2 => wipe σ2 vs = wipe σ vs ∧ tt σ2 H2 fun b H3 =>
      if b = true then te σ2 H3 fun y H4 => ∃ acc, H4 D = some (.lst acc) ∧ acc.length < sizeLine ∧ Pv (i + 1) (upd H4 D (.lst (acc ++ [y]))) else Pv (i + 1) H3)
    (hd : ∀ H, Pv xs.length H → Qd H) :
    ∃ W : Nat → Nat → Hp → Prop, (∃ m, W 0 m (upd H1 D (.lst []))) ∧ ∀ i m H, W i m H →
      ((Ite K a).stop i H ∧ Qd H) ∨ ((Ite K a).go i H ∧ ∃ Nx : Hp → Prop, (∀ H', Nx H' → ∃ m', m' < m ∧ W (i + 1) m' H') ∧ ∀ x H', (Ite K a).yld i H x H' → g x (wipe σ vs) H' fun σ2 H2 => wipe σ2 vs = wipe σ vs ∧ tt σ2 H2 fun b H3 =>
        if b = true then te σ2 H3 fun y H4 => ∃ acc, H4 D = some (.lst acc) ∧ acc.length < sizeLine ∧ Nx (upd H4 D (.lst (acc ++ [y]))) else Nx H3) := by
  refine ⟨fun i m G => m = xs.length - i ∧ i ≤ xs.length ∧ Pv i G, ⟨xs.length, rfl, Nat.zero_le _, h0⟩, ?_⟩
  rintro i m G ⟨rfl, hi, p⟩
  have q := hl i G p
  by_cases lt : i < xs.length
  · refine .inr ⟨⟨xs, xs[i], q, List.getElem?_eq_getElem lt⟩, Pv (i + 1), fun G' p' => ⟨xs.length - (i + 1), by omega, rfl, lt, p'⟩, fun v G' y => ?_⟩
    obtain ⟨T, x, rfl, hT, rfl, f1⟩ := y
    exact hs i x T G (f1 xs q) p hT
  · have e : i = xs.length := by omega
    subst e
    exact .inl ⟨⟨xs, q, Nat.le_refl _⟩, hd G p⟩
theorem nine {xs : List V} (h : xs.length = 9) : ∃ x0 x1 x2 x3 x4 x5 x6 x7 x8, xs = [x0, x1, x2, x3, x4, x5, x6, x7, x8] := by
  match xs, h with
  | [x0, x1, x2, x3, x4, x5, x6, x7, x8], _ => exact ⟨x0, x1, x2, x3, x4, x5, x6, x7, x8, rfl⟩
theorem Paired.good {H H' : Hp} (k : ∀ v d, Good H v d → Good H' v d) : ∀ {xs : List V} {ds : List PyData}, Paired (Good H) xs ds → Paired (Good H') xs ds
  | _, _, .nil => .nil
  | _, _, .cons a b => .cons (k _ _ a) (Paired.good k b)
theorem Lot.same {H H' : Hp} {q : Addr} {xs : List V} {ds : List PyData} (l : Lot H q xs ds) (s : Same H H') : Lot H' q xs ds := ⟨s _ _ l.at_, l.nine, Paired.good (fun _ _ g => g.same s) l.good⟩
theorem Lot.but {p : Addr} {H H' : Hp} {q : Addr} {xs : List V} {ds : List PyData} (l : Lot H q xs ds) (P : Pool H p) (ne : q ≠ p) (s : But p H H') : Lot H' q xs ds := ⟨s _ _ l.at_ ne, l.nine, Paired.good (fun _ _ g => g.but P s) l.good⟩
theorem ErrAll.same {H H' : Hp} (s : Same H H') : ∀ {Cs es : List Addr} {fs : List (List (Str × V))}, ErrAll H Cs es fs → ErrAll H' Cs es fs
  | [], [], [], _ => trivial
  | _ :: _, _ :: _, _ :: _, h => ⟨h.1.same s, ErrAll.same s h.2⟩
  | [], [], _ :: _, h => h.elim
  | [], _ :: _, _, h => by cases h
  | _ :: _, [], _, h => by cases h
  | _ :: _, _ :: _, [], h => by cases h
/-- a lot at x, and the errors made of it at y -/
def Turn (H : Hp) (Cs : List Addr) (x y : V) : Prop := ∃ (q r : Addr) (xs : List V) (ds : List PyData) (es : List Addr) (x0 x1 x2 x3 x4 x5 x6 x7 x8 : V), x = .ref q ∧ y = .ref r ∧ xs = [x0, x1, x2, x3, x4, x5, x6, x7, x8] ∧
  Lot H q xs ds ∧ H r = some (.lst (es.map V.ref)) ∧ ErrAll H Cs es (fss x0 x1 x2 x3 x4 x5 x6 x7 x8)
theorem Turn.same {H H' : Hp} {Cs : List Addr} {x y : V} (t : Turn H Cs x y) (s : Same H H') : Turn H' Cs x y := by
  obtain ⟨q, r, xs, ds, es, x0, x1, x2, x3, x4, x5, x6, x7, x8, h1, h2, h3, h4, h5, h6⟩ := t
  exact ⟨q, r, xs, ds, es, x0, x1, x2, x3, x4, x5, x6, x7, x8, h1, h2, h3, h4.same s, s _ _ h5, ErrAll.same s h6⟩
section
variable {P : Program} {w : World} {K : PySem.W.Frag} {mg : Str → Option Value} {base : Heap} {c0 c1 c2 c3 c4 c5 c6 c7 c8 c9 c10 c11 cL : Addr}
/-- the rows of isinstance, for all twelve -/
structure Rows (K : PySem.W.Frag) (c0 c1 c2 c3 c4 c5 c6 c7 c8 c9 c10 c11 cL : Addr) : Prop where
  r0 : KitRow K c0 0 c0 c1 c2 c3 c4 c5 c6 c7 c8 c9 c10 c11 cL
  r1 : KitRow K c1 1 c0 c1 c2 c3 c4 c5 c6 c7 c8 c9 c10 c11 cL
  r2 : KitRow K c2 2 c0 c1 c2 c3 c4 c5 c6 c7 c8 c9 c10 c11 cL
  r3 : KitRow K c3 3 c0 c1 c2 c3 c4 c5 c6 c7 c8 c9 c10 c11 cL
  r4 : KitRow K c4 4 c0 c1 c2 c3 c4 c5 c6 c7 c8 c9 c10 c11 cL
  r5 : KitRow K c5 5 c0 c1 c2 c3 c4 c5 c6 c7 c8 c9 c10 c11 cL
  r6 : KitRow K c6 6 c0 c1 c2 c3 c4 c5 c6 c7 c8 c9 c10 c11 cL
  r7 : KitRow K c7 7 c0 c1 c2 c3 c4 c5 c6 c7 c8 c9 c10 c11 cL
  r8 : KitRow K c8 8 c0 c1 c2 c3 c4 c5 c6 c7 c8 c9 c10 c11 cL
  r9 : KitRow K c9 9 c0 c1 c2 c3 c4 c5 c6 c7 c8 c9 c10 c11 cL
  r10 : KitRow K c10 10 c0 c1 c2 c3 c4 c5 c6 c7 c8 c9 c10 c11 cL
  r11 : KitRow K c11 11 c0 c1 c2 c3 c4 c5 c6 c7 c8 c9 c10 c11 cL
theorem err_at {H : Hp} {es : List Addr} {f0 f1 f2 f3 f4 f5 f6 f7 f8 f9 f10 f11 : List (Str × V)} (T : Kinds P w K mg c0 c1 c2 c3 c4 c5 c6 c7 c8 c9 c10 c11) (R : Rows K c0 c1 c2 c3 c4 c5 c6 c7 c8 c9 c10 c11 cL)
    (h : ErrAll H [c0, c1, c2, c3, c4, c5, c6, c7, c8, c9, c10, c11] es [f0, f1, f2, f3, f4, f5, f6, f7, f8, f9, f10, f11]) {i : Nat} {x : V} (e : (es.map V.ref)[i]? = some x) :
    ∃ (a C : Addr) (fs : List (Str × V)), x = .ref a ∧ i < 12 ∧ ErrAt H C a fs ∧ ReadC K C ∧ KitRow K C i c0 c1 c2 c3 c4 c5 c6 c7 c8 c9 c10 c11 cL := by
  obtain ⟨e0, e1, e2, e3, e4, e5, e6, e7, e8, e9, e10, e11, rfl, E0, E1, E2, E3, E4, E5, E6, E7, E8, E9, E10, E11⟩ := ErrAll.twelve h
  rcases i with _ | _ | _ | _ | _ | _ | _ | _ | _ | _ | _ | _ | i
  · cases e; exact ⟨_, _, _, rfl, by decide, E0, T.k0.rd, R.r0⟩
  · cases e; exact ⟨_, _, _, rfl, by decide, E1, T.k1.rd, R.r1⟩
  · cases e; exact ⟨_, _, _, rfl, by decide, E2, T.k2.rd, R.r2⟩
  · cases e; exact ⟨_, _, _, rfl, by decide, E3, T.k3.rd, R.r3⟩
  · cases e; exact ⟨_, _, _, rfl, by decide, E4, T.k4.rd, R.r4⟩
  · cases e; exact ⟨_, _, _, rfl, by decide, E5, T.k5.rd, R.r5⟩
  · cases e; exact ⟨_, _, _, rfl, by decide, E6, T.k6.rd, R.r6⟩
  · cases e; exact ⟨_, _, _, rfl, by decide, E7, T.k7.rd, R.r7⟩
  · cases e; exact ⟨_, _, _, rfl, by decide, E8, T.k8.rd, R.r8⟩
  · cases e; exact ⟨_, _, _, rfl, by decide, E9, T.k9.rd, R.r9⟩
  · cases e; exact ⟨_, _, _, rfl, by decide, E10, T.k10.rd, R.r10⟩
  · cases e; exact ⟨_, _, _, rfl, by decide, E11, T.k11.rd, R.r11⟩
  · simp at e
end
end K86

set_option Elab.async false
set_option linter.all false
set_option maxRecDepth 100000
set_option maxHeartbeats 8000000
namespace K86
open PySem PySem.Spec PyProof.Rows L2
/-! ### how long the text of a list of small things is -/
theorem from_le : ∀ (ts : List Str) (k : Nat) (acc : Str), (textFrom k acc ts).length ≤ acc.length + piled ts
  | [], k, acc => Nat.le_add_right _ _
  | t :: r, k, acc => by
    have h := from_le r (k + 1) (acc ++ (if k > 0 then ", " else "" : String) ++ t)
    have z : ∀ q : String, (q : Str).length ≤ 2 → (acc ++ (q : Str) ++ t).length ≤ acc.length + 2 + t.length := fun q hq => by
      rw [strLen_append, strLen_append]; omega
    have y : (acc ++ (if k > 0 then ", " else "" : String) ++ t).length ≤ acc.length + 2 + t.length := by
      refine z _ ?_
      by_cases e : k > 0
      · rw [if_pos e]; decide +kernel
      · rw [if_neg e]; decide +kernel
    rw [piled_cons]
    exact Nat.le_trans h (by omega)
theorem pile_le : ∀ (ds : List PyData), (∀ d ∈ ds, Small d) → piled (PyData.shownAll ds) ≤ 42 * ds.length
  | [], _ => by simp [PyData.shownAll, piled]
  | d :: r, h => by
    have z := (h d (List.mem_cons_self ..)).2.2.2
    have y := pile_le r fun e he => h e (List.mem_cons_of_mem _ he)
    rw [PyData.shownAll, piled_cons, List.length_cons]
    omega
theorem show_all : ∀ (ds : List PyData), (∀ d ∈ ds, Small d) → PyData.showableAll ds = true ∧ PyData.hasDictAll ds = false ∧ PyData.depthAll ds ≤ 3
  | [], _ => ⟨rfl, rfl, Nat.zero_le _⟩
  | d :: r, h => by
    obtain ⟨z1, z2, z3, _⟩ := h d (List.mem_cons_self ..)
    obtain ⟨y1, y2, y3⟩ := show_all r fun e he => h e (List.mem_cons_of_mem _ he)
    refine ⟨?_, ?_, ?_⟩
    · rw [PyData.showableAll, z1, y1]; rfl
    · rw [PyData.hasDictAll, z2, y2]; rfl
    · rw [PyData.depthAll]; exact Nat.max_le.mpr ⟨z3, y3⟩
theorem small_list {ds : List PyData} (h : ∀ d ∈ ds, Small d) (n : ds.length ≤ 12) : (PyData.list ds).showable = true ∧ (PyData.list ds).hasDict = false ∧ (PyData.list ds).depth ≤ 20 ∧ (PyData.list ds).shown.length ≤ sizeLine := by
  obtain ⟨y1, y2, y3⟩ := show_all ds h
  refine ⟨?_, ?_, ?_, ?_⟩
  · rw [PyData.showable]; exact y1
  · rw [PyData.hasDict]; exact y2
  · rw [PyData.depth]; omega
  · rw [PyData.shown]
    show (textFrom 0 "[" (PyData.shownAll ds) ++ "]" : Str).length ≤ _
    have z := from_le (PyData.shownAll ds) 0 "["
    have y := pile_le ds h
    have a : ("[" : Str).length = 1 := by decide +kernel
    have b : ("]" : Str).length = 1 := by decide +kernel
    rw [strLen_append, b, sizeLine_eq]
    rw [a] at z
    omega
theorem nine_data {H : Hp} {x0 x1 x2 x3 x4 x5 x6 x7 x8 : V} {ds : List PyData} (p : Paired (Good H) [x0, x1, x2, x3, x4, x5, x6, x7, x8] ds) : ∃ d0 d1 d2 d3 d4 d5 d6 d7 d8,
    Good H x0 d0 ∧ Good H x1 d1 ∧ Good H x2 d2 ∧ Good H x3 d3 ∧ Good H x4 d4 ∧ Good H x5 d5 ∧ Good H x6 d6 ∧ Good H x7 d7 ∧ Good H x8 d8 := by
  cases p with
  | cons g0 p => cases p with
    | cons g1 p => cases p with
      | cons g2 p => cases p with
        | cons g3 p => cases p with
          | cons g4 p => cases p with
            | cons g5 p => cases p with
              | cons g6 p => cases p with
                | cons g7 p => cases p with
                  | cons g8 p => exact ⟨_, _, _, _, _, _, _, _, _, g0, g1, g2, g3, g4, g5, g6, g7, g8⟩
section
variable {P : Program} {w : World} {K : PySem.W.Frag} {mg : Str → Option Value} {base : Heap} {c0 c1 c2 c3 c4 c5 c6 c7 c8 c9 c10 c11 cL : Addr}
abbrev nLaw : List Str := ["script", "k", "pool", "lots", "lists", "some", "made", "at", "one"]
theorem scLaw : FnScope nLaw ["script"] (defScope sLaw) := ⟨rfl, rfl, rfl, by decide +kernel, rfl, by decide +kernel, by decide +kernel⟩
/-- the defs that the law calls -/
structure Defs (P : Program) (w : World) (K : PySem.W.Frag) (mg : Str → Option Value) (base : Heap) (c0 c1 c2 c3 c4 c5 c6 c7 c8 c9 c10 c11 cL fP fT fO fN fF fK : Addr) (dP dT dO dN dF dK : FuncData) : Prop where
  gP : FnOk P w K mg base CX0 1 fP dP ["script", "k"] (spPool K)
  gT : FnOk P w K mg base CX0 2 fT dT ["pool"] spThings
  gO : FnOk P w K mg base CX0 2 fO dO ["some"] (spMake [c0, c1, c2, c3, c4, c5, c6, c7, c8, c9, c10, c11])
  gN : FnOk P w K mg base CX0 2 fN dN ["some"] (spMake [c0, c1, c2, c3, c4, c5, c6, c7, c8, c9, c10, c11])
  gF : FnOk P w K mg base CX0 1 fF dF ["made"] (spFields [c0, c1, c2, c3, c4, c5, c6, c7, c8, c9, c10, c11])
  gK : FnOk P w K mg base CX0 2 fK dK ["at", "one"] (spKinds K c0 c1 c2 c3 c4 c5 c6 c7 c8 c9 c10 c11 cL)
  mP : mg "_law_pool" = some (.ref fP)
  mT : mg "_law_things" = some (.ref fT)
  mO : mg "_law_by_position" = some (.ref fO)
  mN : mg "_law_by_name" = some (.ref fN)
  mF : mg "_law_fields" = some (.ref fF)
  mK : mg "_law_kinds_right" = some (.ref fK)
  kP : PySem.W.keepIn K (.ref fP) = true
  kT : PySem.W.keepIn K (.ref fT) = true
  kO : PySem.W.keepIn K (.ref fO) = true
  kN : PySem.W.keepIn K (.ref fN) = true
  kF : PySem.W.keepIn K (.ref fF) = true
  kK : PySem.W.keepIn K (.ref fK) = true
  bP : Binds K dP ["script", "k"] []
  bT : Binds K dT ["pool"] []
  bO : Binds K dO ["some"] []
  bN : Binds K dN ["some"] []
  bF : Binds K dF ["made"] []
  bK : Binds K dK ["at", "one"] []
theorem sql_same {K : PySem.W.Frag} {H H' : Hp} {a : Addr} {xs : List V} (h : SqL K H a xs) (s : Same H H') : SqL K H' a xs := by
  rcases h with (e | ⟨o, e⟩) | e
  · exact .inl (.inl (s _ _ e))
  · exact .inl (.inr ⟨o, s _ _ e⟩)
  · exact .inr e
theorem law_term {f : Addr} {cdv : Value} {s : Shared} {H : Hp} {E : XK} {fP fT fO fN fF fK : Addr} {dP dT dO dN dF dK : FuncData} {A : Around}
    (D : Defs P w K mg base c0 c1 c2 c3 c4 c5 c6 c7 c8 c9 c10 c11 cL fP fT fO fN fF fK dP dT dO dN dF dK) (T : Kinds P w K mg c0 c1 c2 c3 c4 c5 c6 c7 c8 c9 c10 c11) (R : Rows K c0 c1 c2 c3 c4 c5 c6 c7 c8 c9 c10 c11 cL) (N : Names mg)
    (hA : A = callerA) (hr : Room 2 (A.deeper (envOfC "law" (defScope sLaw) s.heap.objs.size f cdv))) {a : Addr} {ns : List Int} (hS : SqL K H a (ns.map V.int)) {Q : VK} (fin : ∀ H', Q (.bl true) H') :
    ∃ t, PSs (cxOf CX0 P w K mg base nLaw "law" (defScope sLaw) f cdv A [] s H E).nox (defBody sLaw) t ∧ t { nx := fun _ H' => Q .non H', rt := Q } (start nLaw [.ref a]) H := by
  have hg : (A.deeper (envOfC "law" (defScope sLaw) s.heap.objs.size f cdv)).guards = some [] := by rw [hA]; rfl
  refine ⟨_, pss_cons (ps_for PassesOwn.never rfl (pi_range1 rfl N.range (pa_cons (pe_callB (call_max2 rfl) (by rfl) N.max (by decide +kernel) (pa_cons pe_int (pa_cons (pe_callB (call_min2 rfl) (by rfl) N.min (by decide +kernel) (pa_cons (pe_callB call_len_seq (by rfl) N.len PySem.boot_len (pa_cons (pv 0) pa_nil)) (pa_cons pe_int pa_nil))) pa_nil))) pa_nil))
      (pg_name (i := 1) scLaw.nd rfl (Or.inl rfl))
      (pss_cons (ps_set (i := 2) scLaw.nd rfl (Or.inl rfl) (pe_call D.gP (hr.mono (by decide)) rfl D.mP D.kP D.bP .nil pass0 (pa_cons (pv 0) (pa_cons (pv 1) pa_nil))))
      (pss_cons (ps_set (i := 3) scLaw.nd rfl (Or.inl rfl) (pe_lst (pa_cons (pe_call D.gT hr rfl D.mT D.kT D.bT .nil pass0 (pa_cons (pv 2) pa_nil)) (pa_cons (pe_call D.gT hr rfl D.mT D.kT D.bT .nil pass0 (pa_cons (pv 2) pa_nil)) pa_nil))))
      (pss_cons (ps_set (i := 4) scLaw.nd rfl (Or.inl rfl) (pe_lst (pa_cons (pe_call D.gO hr rfl D.mO D.kO D.bO .nil pass0 (pa_cons (pe_ix ix_list (pv 3) pe_int (fun _ _ => rfl)) pa_nil))
        (pa_cons (pe_call D.gN hr rfl D.mN D.kN D.bN .nil pass0 (pa_cons (pe_ix ix_list (pv 3) pe_int (fun _ _ => rfl)) pa_nil)) (pa_cons (pe_call D.gN hr rfl D.mN D.kN D.bN .nil pass0 (pa_cons (pe_ix ix_list (pv 3) pe_int (fun _ _ => rfl)) pa_nil)) pa_nil)))))
      (pss_one (ps_for PassesOwn.never rfl (pi_zip rfl N.zip (pa_cons (pe_lst (pa_cons (pe_ix ix_list (pv 3) pe_int (fun _ _ => rfl)) (pa_cons (pe_ix ix_list (pv 3) pe_int (fun _ _ => rfl)) (pa_cons (pe_ix ix_list (pv 3) pe_int (fun _ _ => rfl)) pa_nil)))) (pa_cons (pv 4) pa_nil)))
        (pg_tup rfl (pgs_cons (pg_name (i := 5) scLaw.nd rfl (Or.inl rfl)) (pgs_cons (pg_name (i := 6) scLaw.nd rfl (Or.inl rfl)) pgs_nil)))
        (pss_cons (ps_if (pt_cmpR op_ne (pe_callB (call_rep hg hr.units) (by rfl) N.repr (by decide +kernel) (pa_cons (pe_call D.gF (hr.mono (by decide)) rfl D.mF D.kF D.bF .nil pass0 (pa_cons (pv 6) pa_nil)) pa_nil))
            (pe_callB (call_rep hg hr.units) (by rfl) N.repr (by decide +kernel) (pa_cons (pe_op op_cat (pe_op op_cat (pe_slice sl_list (pv 5) po_none (po_some pe_int)) (pe_op op_rep (pe_lst (pa_cons (pe_ix ix_list (pv 5) pe_int (fun _ _ => rfl)) pa_nil)) pe_int))
              (pe_lst (pa_cons (pe_ix ix_list (pv 5) pe_int (fun _ _ => rfl)) pa_nil))) pa_nil)) (nomark _)) (pss_one (ps_ret pe_bl)) pss_nil)
        (pss_one (ps_if (pt_cmpR (op_neD hr.units) (pe_lc (own := [("at", 7), ("one", 8)]) (g := gTup K 2 (gCons (gName 7) (gCons (gName 8) gNil)))
            (tt := tNot (tB (tCall (spKinds K c0 c1 c2 c3 c4 c5 c6 c7 c8 c9 c10 c11 cL) [] E0 (tCons (tVar 7) (tCons (tVar 8) tNil))))) (te := tVar 7) rfl scLaw.nd (pi_enum rfl N.enum (pa_cons (pv 6) pa_nil)) (blkOk_by (own := [("at", 7), ("one", 8)]) (N := nLaw) (sc := defScope sLaw) (by decide +kernel))
            (fun _ _ _ _ _ => pg_tup rfl (pgs_cons (pg_name (i := 7) scLaw.nd rfl (Or.inl rfl)) (pgs_cons (pg_name (i := 8) scLaw.nd rfl (Or.inl rfl)) pgs_nil)))
            (fun _ _ _ _ _ => pts_one (pt_not (pt_val (pe_call D.gK hr rfl D.mK D.kK D.bK .nil pass0 (pa_cons (pv 7) (pa_cons (pv 8) pa_nil)))))) (fun _ _ _ _ _ => pv 7)) (pe_lst pa_nil) (nomark _)) (pss_one (ps_ret pe_bl)) pss_nil))))))))) (pss_one (ps_ret pe_bl)), ?_⟩
  refine ⟨_, rfl, a, _, rfl, .inl hS, _, _, rfl, _, _, rfl, _, rfl, ?_, ?_, for_range (lo := 0) (fun _ σ G => ∃ u1 u2 u3 u4 u5 u6 u7 u8, σ = [some (.ref a), u1, u2, u3, u4, u5, u6, u7, u8] ∧ Same H G) ⟨_, _, _, _, _, _, _, _, rfl, fun _ _ e => e⟩ ?_ ?_⟩
  · split <;> split <;> omega
  · split <;> split <;> omega
  · rintro i σ G hi ⟨u1, u2, u3, u4, u5, u6, u7, u8, rfl, SG⟩
    have hi4 : i < 4 := by
      revert hi
      split <;> split <;> omega
    refine ⟨_, rfl, _, rfl, a, ns, _, rfl, sql_same hS SG, by omega, by omega, fun p H1 px py S1 np hp hpx hpy hpy' => ?_⟩
    have P1 : Pool H1 p := ⟨px, py, hp, hpx, hpy, hpy'⟩
    refine ⟨_, rfl, p, rfl, P1, fun q1 H2 xs ds B2 P2 n2 L1 => ⟨_, rfl, p, rfl, P2, fun q2 H3 ys es B3 P3 n3 Lq => ⟨(by rw [sizeLine_eq]; show 2 ≤ _; omega), fun l nl => ?_⟩⟩⟩
    have L1b := L1.but P2 (P1.nn n2) B3
    have SG3 : Same G H3 := fun b o e => by
      have nb : b ≠ p := fun z => by rw [z, np] at e; cases e
      exact B3 b o (B2 b o (S1 b o e) nb) nb
    have SG4 : Same H3 (upd H3 l (.lst [.ref q1, .ref q2])) := same_upd nl
    have h4 : (upd H3 l (.lst [.ref q1, .ref q2])) l = some (.lst [.ref q1, .ref q2]) := upd_same
    generalize upd H3 l (.lst [.ref q1, .ref q2]) = H4 at SG4 h4 ⊢
    have A1 := L1b.same SG4
    have A2 := Lq.same SG4
    obtain ⟨x0, x1, x2, x3, x4, x5, x6, x7, x8, rfl⟩ := nine A1.nine
    obtain ⟨y0, y1, y2, y3, y4, y5, y6, y7, y8, rfl⟩ := nine A2.nine
    refine ⟨_, rfl, l, _, _, .ref q1, rfl, rfl, SqL.of h4, rfl, q1, _, _, _, _, _, _, _, _, _, rfl, A1.at_, fun r1 e1 H5 S5 n5 h5 E5 => ?_⟩
    refine ⟨_, rfl, l, _, _, .ref q2, rfl, rfl, SqL.of (S5 _ _ h4), rfl, q2, _, _, _, _, _, _, _, _, _, rfl, (A2.same S5).at_, fun r2 e2 H6 S6 n6 h6 E6 => ?_⟩
    refine ⟨_, rfl, l, _, _, .ref q1, rfl, rfl, SqL.of (S6 _ _ (S5 _ _ h4)), rfl, q1, _, _, _, _, _, _, _, _, _, rfl, ((A1.same S5).same S6).at_, fun r3 e3 H7 S7 n7 h7 E7 => ?_⟩
    refine ⟨(by rw [sizeLine_eq]; show 3 ≤ _; omega), fun m nm => ?_⟩
    have S8 : Same H7 (upd H7 m (.lst [.ref r1, .ref r2, .ref r3])) := same_upd nm
    have h8 : (upd H7 m (.lst [.ref r1, .ref r2, .ref r3])) m = some (.lst [.ref r1, .ref r2, .ref r3]) := upd_same
    generalize upd H7 m (.lst [.ref r1, .ref r2, .ref r3]) = H8 at S8 h8 ⊢
    have S78 : Same H6 H8 := S7.trans S8
    have S68 : Same H5 H8 := S6.trans S78
    have S48 : Same H4 H8 := S5.trans S68
    have t1 : Turn H8 [c0, c1, c2, c3, c4, c5, c6, c7, c8, c9, c10, c11] (.ref q1) (.ref r1) := ⟨q1, r1, _, ds, e1, _, _, _, _, _, _, _, _, _, rfl, rfl, rfl, A1.same S48, S68 _ _ h5, ErrAll.same S68 E5⟩
    have t2 : Turn H8 [c0, c1, c2, c3, c4, c5, c6, c7, c8, c9, c10, c11] (.ref q2) (.ref r2) := ⟨q2, r2, _, es, e2, _, _, _, _, _, _, _, _, _, rfl, rfl, rfl, A2.same S48, S78 _ _ h6, ErrAll.same S78 E6⟩
    have t3 : Turn H8 [c0, c1, c2, c3, c4, c5, c6, c7, c8, c9, c10, c11] (.ref q1) (.ref r3) := ⟨q1, r3, _, ds, e3, _, _, _, _, _, _, _, _, _, rfl, rfl, rfl, A1.same S48, S8 _ _ h7, ErrAll.same S8 E7⟩
    have h48 : H8 l = some (.lst [.ref q1, .ref q2]) := S48 _ _ h4
    have S08 : Same H H8 := ((SG.trans SG3).trans SG4).trans S48
    refine ⟨_, rfl, l, _, _, .ref q1, rfl, rfl, SqL.of h48, rfl, _, rfl, l, _, _, .ref q2, rfl, rfl, SqL.of h48, rfl, _, rfl, l, _, _, .ref q1, rfl, rfl, SqL.of h48, rfl, (by rw [sizeLine_eq]; show 3 ≤ _; omega), fun z nz => ?_⟩
    have S9 : Same H8 (upd H8 z (.lst [.ref q1, .ref q2, .ref q1])) := same_upd nz
    have h9 : (upd H8 z (.lst [.ref q1, .ref q2, .ref q1])) z = some (.lst [.ref q1, .ref q2, .ref q1]) := upd_same
    generalize upd H8 z (.lst [.ref q1, .ref q2, .ref q1]) = H9 at S9 h9 ⊢
    refine ⟨_, rfl, z, m, _, _, rfl, SqL.of h9, SqL.of (S9 _ _ h8), RZ.for_zipL (xs := [.ref q1, .ref q2, .ref q1]) (ys := [.ref r1, .ref r2, .ref r3]) rfl (fun _ σ G => ∃ v5 v6 v7 v8, σ = [some (.ref a), some (.int (0 + i)), some (.ref p), some (.ref l), some (.ref m), v5, v6, v7, v8] ∧ Same H9 G) ⟨_, _, _, _, rfl, fun _ _ e => e⟩ (fun j σ G ⟨_, _, _, _, _, SZ⟩ => ⟨SqL.of (SZ _ _ h9), SqL.of (SZ _ _ (S9 _ _ h8))⟩) ?_ ?_⟩
    · rintro j x y U σ G hx hy ⟨v5, v6, v7, v8, rfl, SZ⟩ hU
      have tt : Turn H8 [c0, c1, c2, c3, c4, c5, c6, c7, c8, c9, c10, c11] x y := by
        rcases j with _ | _ | _ | j
        · cases hx; cases hy; exact t1
        · cases hx; cases hy; exact t2
        · cases hx; cases hy; exact t3
        · cases hx
      have SU : Same G (upd G U (.tup [x, y])) := same_upd hU
      have hTu : (upd G U (.tup [x, y])) U = some (.tup [x, y]) := upd_same
      generalize upd G U (.tup [x, y]) = GU at SU hTu ⊢
      have S9U : Same H9 GU := SZ.trans SU
      obtain ⟨q, r, xs, ds, es, z0, z1, z2, z3, z4, z5, z6, z7, z8, rfl, rfl, rfl, LU, hrU, EU⟩ := (tt.same S9).same S9U
      refine ⟨U, _, rfl, SqT.of hTu, rfl, _, _, rfl, _, _, rfl, rfl, ?_⟩
      refine ⟨_, rfl, r, es, _, _, _, _, _, _, _, _, _, rfl, hrU, EU, fun b K1 T1 nb hb => ?_⟩
      obtain ⟨d0, d1, d2, d3, d4, d5, d6, d7, d8, g0, g1, g2, g3, g4, g5, g6, g7, g8⟩ := nine_data LU.good
      have sm := small_list (ds := [d0, d1, d2, d3, d4, d5, d6, d7, d7, d7, d7, d8]) (by
        intro d hd
        simp only [List.mem_cons, List.not_mem_nil, or_false] at hd
        rcases hd with rfl | rfl | rfl | rfl | rfl | rfl | rfl | rfl | rfl | rfl | rfl | rfl
        · exact g0.small
        · exact g1.small
        · exact g2.small
        · exact g3.small
        · exact g4.small
        · exact g5.small
        · exact g6.small
        · exact g7.small
        · exact g7.small
        · exact g7.small
        · exact g7.small
        · exact g8.small) (Nat.le_refl 12)
      have dp : ∀ {X : Hp} {k : Addr}, Same GU X → X k = some (.lst [z0, z1, z2, z3, z4, z5, z6, z7, z7, z7, z7, z8]) → Dp K X (.ref k) (.list [d0, d1, d2, d3, d4, d5, d6, d7, d7, d7, d7, d8]) := fun {X k} s e =>
        .lst (SqL.of e) (.cons (g0.same s).dp (.cons (g1.same s).dp (.cons (g2.same s).dp (.cons (g3.same s).dp (.cons (g4.same s).dp (.cons (g5.same s).dp (.cons (g6.same s).dp (.cons (g7.same s).dp (.cons (g7.same s).dp (.cons (g7.same s).dp (.cons (g7.same s).dp (.cons (g8.same s).dp .nil))))))))))))
      refine ⟨b, _, rfl, dp T1 hb, sm.1, sm.2.1, sm.2.2.1, sm.2.2.2, ?_⟩
      have LK := LU.same T1
      refine ⟨_, rfl, _, rfl, q, _, rfl, SqL.of LK.at_, fun k1 m1 => ?_⟩
      have R1 : Same K1 (upd K1 k1 (.lst [z0, z1, z2, z3, z4, z5, z6])) := same_upd m1
      have w1 : (upd K1 k1 (.lst [z0, z1, z2, z3, z4, z5, z6])) k1 = some (.lst [z0, z1, z2, z3, z4, z5, z6]) := upd_same
      refine ⟨_, rfl, q, _, _, z7, rfl, rfl, SqL.of (R1 _ _ LK.at_), rfl, (by rw [sizeLine_eq]; show 1 ≤ _; omega), fun k2 m2 => ?_⟩
      have R2 := R1.trans (same_upd (o := .lst [z7]) m2)
      have w2 := same_upd (o := .lst [z7]) m2 _ _ w1
      refine ⟨k2, 4, _, rfl, rfl, upd_same, by decide, by decide, (by rw [sizeLine_eq]; show 4 ≤ _; omega), fun k3 m3 => ?_⟩
      have R3 := R2.trans (same_upd (o := .lst [z7, z7, z7, z7]) m3)
      have w3 := same_upd (o := .lst [z7, z7, z7, z7]) m3 _ _ w2
      refine ⟨k1, k3, _, [z7, z7, z7, z7], rfl, rfl, w3, upd_same, (by rw [sizeLine_eq]; show 7 + 4 ≤ _; omega), fun k4 m4 => ?_⟩
      have R4 := R3.trans (same_upd (o := .lst [z0, z1, z2, z3, z4, z5, z6, z7, z7, z7, z7]) m4)
      refine ⟨_, rfl, q, _, _, z8, rfl, rfl, SqL.of (R4 _ _ LK.at_), rfl, (by rw [sizeLine_eq]; show 1 ≤ _; omega), fun k5 m5 => ?_⟩
      have R5 := R4.trans (same_upd (o := .lst [z8]) m5)
      have w5 := same_upd (o := .lst [z8]) m5 _ _ (upd_same (o := .lst [z0, z1, z2, z3, z4, z5, z6, z7, z7, z7, z7]))
      refine ⟨k4, k5, _, [z8], rfl, rfl, w5, upd_same, (by rw [sizeLine_eq]; show 11 + 1 ≤ _; omega), fun k6 m6 => ?_⟩
      have R6 := R5.trans (same_upd (o := .lst [z0, z1, z2, z3, z4, z5, z6, z7, z7, z7, z7, z8]) m6)
      refine ⟨k6, _, rfl, dp (T1.trans R6) upd_same, sm.1, sm.2.1, sm.2.2.1, sm.2.2.2, rfl, _, rfl, ?_⟩
      rw [show (!decide (V.str (PyData.shown (.list [d0, d1, d2, d3, d4, d5, d6, d7, d7, d7, d7, d8])) = V.str (PyData.shown (.list [d0, d1, d2, d3, d4, d5, d6, d7, d7, d7, d7, d8])))) = false by simp]
      refine iteF ?_
      have SB := T1.trans R6
      have hrB := SB _ _ hrU
      refine ⟨_, rfl, r, _, rfl, SqL.of hrB, fun D hD => lc_enum (xs := es.map V.ref) (fun _ G => Same GU G ∧ G D = some (.lst [])) ⟨SB.trans (same_upd hD), upd_same⟩ (fun i G s => SqL.of (s.1 _ _ hrU)) ?_ ?_⟩
      · rintro i x U2 G2 hx ⟨SG2, hD2⟩ hU2
        obtain ⟨e, C, fs, rfl, hi12, EA, RC, KR⟩ := err_at T R EU hx
        have SU2 := SG2.trans (same_upd (o := .tup [.int (i : Int), .ref e]) hU2)
        have hDU := same_upd (o := .tup [.int (i : Int), .ref e]) hU2 _ _ hD2
        refine ⟨U2, _, rfl, SqT.of upd_same, rfl, _, _, rfl, _, _, rfl, rfl, rfl, _, rfl, _, rfl, e, C, fs, i, rfl, hi12, EA.same SU2, RC, KR, fun H' S' => ⟨true, rfl, iteF ⟨SU2.trans S', S' _ _ hDU⟩⟩⟩
      · rintro G2 ⟨SG2, hD2⟩
        refine ⟨(by rw [sizeLine_eq]; show 0 ≤ _; omega), fun k nk => ⟨.list [], .list [], .lst (SqL.of (same_upd nk _ _ hD2)) .nil, .lst (SqL.of upd_same) .nil, rfl, rfl, _, rfl, iteF ⟨_, _, _, _, rfl, (S9U.trans SG2).trans (same_upd nk)⟩⟩⟩
    · rintro σ G ⟨v5, v6, v7, v8, rfl, SZ⟩
      exact ⟨_, _, _, _, _, _, _, _, rfl, (S08.trans S9).trans SZ⟩
  · rintro σ G ⟨u1, u2, u3, u4, u5, u6, u7, u8, rfl, SG⟩
    exact fin G
end
end K86

set_option Elab.async false
set_option linter.all false
set_option maxRecDepth 100000
set_option maxHeartbeats 4000000
namespace K86
open PySem PySem.Spec PyProof.Rows L2
section
variable {P : Program} {w : World} {K : PySem.W.Frag} {mg : Str → Option Value} {base : Heap} {c0 c1 c2 c3 c4 c5 c6 c7 c8 c9 c10 c11 cL fP fT fO fN fF fK : Addr} {dP dT dO dN dF dK : FuncData}
/-- the law's call, from the caller itself (whose guards are told): it ends in True -/
theorem law_run {fa a : Addr} {fd : FuncData} {s : Shared} {H : Hp} {ns : List Int} (F : Fun K "law" "law" sLaw fa fd)
    (D : Defs P w K mg base c0 c1 c2 c3 c4 c5 c6 c7 c8 c9 c10 c11 cL fP fT fO fN fF fK dP dT dO dN dF dK) (T : Kinds P w K mg c0 c1 c2 c3 c4 c5 c6 c7 c8 c9 c10 c11) (R : Rows K c0 c1 c2 c3 c4 c5 c6 c7 c8 c9 c10 c11 cL) (N : Names mg)
    (e0 : Env0 P w K mg base callerA [] s H) (hS : SqL K H a (ns.map V.int)) :
    codeAny (model P w) callerA (.call (.ref fa) ⟨[.ref a], []⟩) (CR CX0 [] P w H s (fun v _ => v = .bl true) E0) s := by
  have room : Room 3 callerA := ⟨rfl, by decide, by decide⟩
  obtain ⟨oc, od, kV, doc, pm, an, cdv, ct, osl, rfl, lk, hcd⟩ := F.ex
  have kin := e0.mod.kin.keeps fun b o e => (e0.bs b o e).1
  have lim := e0.mod.nolimit.keeps fun b o e => (e0.bs b o e).1
  have vals : Vals [V.ref a] [Value.ref a] := .cons rfl .nil
  refine codeAny_call_function room.depth (kin _ _ lk) rfl scLaw.co scLaw.gen rfl (PySem.W.codeRec_of kin hcd) (BindsTo.of_eq (binds := [(("script" : Str), Value.ref a)]) rfl _ _ _ _ ?_)
  refine wpAny_newFunctionEnv_cells scLaw.kind (fun y hy => ?_) fun env he s1 entry => ?_
  · have e : y = (("script" : Str), Value.ref a) := List.mem_singleton.mp hy
    subst e
    exact .inl rfl
  · subst he
    refine ⟨lim.keeps entry.toInCall.keep, codeAny_func ?_⟩
    obtain ⟨t, ht, hq⟩ := law_term (f := fa) (cdv := cdv) (s := s) (H := H) (E := E0) (A := callerA) D T R N rfl (room.deeper _) hS (Q := fun v _ => v = .bl true) fun _ => rfl
    have I := inv_start (CX := CX0) (P := P) (w := w) (K := K) (E := E0) (us := [Value.ref a]) (vs := [V.ref a]) (f := fa) (cd := cdv) (qual := "law") scLaw room.hd e0 rfl vals entry
    refine wpAny_mono (ht.nox.run [] s1 _ H _ I hq) (fun fl s2 out => ?_) fun e s2 out => out
    cases fl with
    | ret u => obtain ⟨v, σ2, H2, J, rv, q⟩ := out; exact ⟨v, H2, J.os, J.bare, J.base, J.hok, rv, q⟩
    | next => obtain ⟨σ2, H2, J, q⟩ := out; cases q
    | brk => obtain ⟨_, _, _, q⟩ := out; exact q.elim
    | cont => obtain ⟨_, _, _, q⟩ := out; exact q.elim
/-- what the law's call leaves, from a heap in which the script alone is told -/
theorem law_old {fa a : Addr} {s : Shared} {H : Hp} {vs : List Value} {mb : Str → Option Value}
    (run : ∀ base : Heap, K.In base → base.Ns mainGlobals mg → Env0 P w K mg base callerA [] s H → codeAny (model P w) callerA (.call (.ref fa) ⟨[.ref a], []⟩) (CR CX0 [] P w H s (fun v _ => v = .bl true) E0) s)
    (kin : K.In s.heap) (g : s.heap.Ns mainGlobals mg) (b : s.heap.Ns builtinsNs mb) (bb : ∀ x : Str, x ≠ "__name__" → mb x = bootBuiltins x) (lim : s.heap.NoLimit) (gens : s.gens = #[])
    (ha : s.heap.get? a = some { cls := .type "list", data := .seq vs.toArray }) (only : Only H) (ok : HOk P w H s.heap) (lone : ∀ c, H c ≠ none → c = a) (own : H a ≠ none → K.lookup a = none) :
    codeAny (model P w) callerA (.call (.ref fa) ⟨[.ref a], []⟩) (fun r s' => r = .ok (.ret (.bool true)) ∧ OldK s.heap s'.heap ∧ s'.os = s.os ∧ AllBare s'.gens) s := by
  have told : ∀ {c : Addr} {o : Obj}, s.heap.get? c = some o → c ≠ a → (hidT s.heap H).get? c = some o := fun {c o} e ne => hidT_get e (by
    rcases only c with z | ⟨_, _, z⟩
    · exact z
    · exact absurd (lone c (by rw [z]; exact fun q => nomatch q)) ne)
  have space : ∀ {c : Addr} {m : Str → Option Value}, s.heap.Ns c m → (hidT s.heap H).Ns c m := fun {c m} ⟨o, es, ep, e, d, r⟩ => ⟨o, es, ep, told e (fun z => by
    rw [z, ha] at e
    cases e
    exact nomatch (show Data.seq vs.toArray _ = Data.dict es ep from d)), d, r⟩
  have kinB : K.In (hidT s.heap H) := fun c o e => by
    refine hidT_get (kin c o e) ?_
    rcases only c with z | ⟨_, _, z⟩
    · exact z
    · have ne : H c ≠ none := by rw [z]; exact fun q => nomatch q
      have ca := lone c ne
      rw [ca] at e ne
      rw [own ne] at e
      cases e
  obtain ⟨mc, lim1, lim2⟩ := lim
  have e0 : Env0 P w K mg (hidT s.heap H) callerA [] s H :=
    { frames := rfl, mod := ⟨kinB, space g, ⟨mb, space b, bb⟩, ⟨mc, space lim1, lim2⟩⟩, bs := fun c o e => of_hidT e, bsz := by rw [hidT_size]; exact Nat.le_refl _, funs := trivial, frf := (by intro c hc; cases hc), hok := ok, bare := .of_eq gens }
  refine codeAny_mono (run _ kinB (space g) e0) fun r s2 out => ?_
  match r, out with
  | .error _, out => exact False.elim out
  | .ok (.next), out => exact False.elim out
  | .ok (.brk), out => exact False.elim out
  | .ok (.cont), out => exact False.elim out
  | .ok (.ret u), ⟨v, H2, os, bare, un, ok2, rv, q⟩ =>
    have q' : v = .bl true := q
    subst q'
    have ut : u = Value.bool true := rv
    subst ut
    refine ⟨rfl, OldK.of_keep fun c o e => ?_, os, bare⟩
    rcases only c with z | ⟨ob, xs, z⟩
    · exact un.keep c o e z (fun m => nomatch m) (by simp)
    · have z2 := un.frzs c ob _ z
      have p1 := (ok c _ z).1
      have p2 := (ok2 c _ z2).1
      rw [e] at p1
      cases p1
      exact p2
theorem law_call86 {fa a : Addr} {s : Shared} {vs : List Value} {ns : List Int} {mb : Str → Option Value}
    (run : ∀ (base : Heap) (H : Hp), K.In base → base.Ns mainGlobals mg → Env0 P w K mg base callerA [] s H → SqL K H a (ns.map V.int) → codeAny (model P w) callerA (.call (.ref fa) ⟨[.ref a], []⟩) (CR CX0 [] P w H s (fun v _ => v = .bl true) E0) s)
    (kin : K.In s.heap) (g : s.heap.Ns mainGlobals mg) (b : s.heap.Ns builtinsNs mb) (bb : ∀ x : Str, x ≠ "__name__" → mb x = bootBuiltins x) (lim : s.heap.NoLimit) (gens : s.gens = #[])
    (ha : s.heap.get? a = some { cls := .type "list", data := .seq vs.toArray }) (hi : IntsAre vs ns) (hl : ns.length ≤ sizeLine) :
    codeAny (model P w) callerA (.call (.ref fa) ⟨[.ref a], []⟩) (fun r s' => r = .ok (.ret (.bool true)) ∧ OldK s.heap s'.heap ∧ s'.os = s.os ∧ AllBare s'.gens) s := by
  have rv := vals_ints hi
  cases hk : K.lookup a with
  | none =>
    obtain ⟨o, ho⟩ : ∃ o : HO, o = .frz { cls := .type "list", data := .seq vs.toArray } (.lst (ns.map V.int)) := ⟨_, rfl⟩
    have at_ : upd (fun _ => none) a o a = some o := upd_same
    have off : ∀ c, c ≠ a → upd (fun _ => none) a o c = none := fun c ne => by rw [upd_ne ne]
    refine law_old (H := upd (fun _ => none) a o) (fun base k1 g1 e0 => run base _ k1 g1 e0 (.inl (.inr ⟨_, by rw [at_, ho]⟩))) kin g b bb lim gens ha (fun c => ?_) (fun c u z => ?_) (fun c z => ?_) fun _ => hk
    · by_cases e : c = a
      · exact .inr ⟨_, _, by rw [e, at_, ho]⟩
      · exact .inl (off c e)
    · by_cases e : c = a
      · subst e
        rw [at_] at z
        cases z
        subst ho
        exact ⟨ha, by rw [List.length_map]; exact hl, vs, _, rv, ha⟩
      · rw [off c e] at z
        cases z
    · by_cases e : c = a
      · exact e
      · exact absurd (off c e) z
  | some o =>
    have e := kin a o hk
    rw [ha] at e
    cases e
    refine law_old (H := fun _ => none) (fun base k1 g1 e0 => run base _ k1 g1 e0 (.inr ⟨_, vs.toArray, _, hk, rfl, rfl, rfl, by rw [List.size_toArray, hi.length]; exact hl, by simpa using rv⟩)) kin g b bb lim gens ha (fun c => .inl rfl) (fun c u z => ?_) (fun c z => absurd rfl z) fun z => absurd rfl z
    have z' : (none : Option HO) = some u := z
    cases z'
end
/-- the goal that k_head leaves, from the law's run -/
theorem walk86 {l : PySem.W.OpenLaw} {q : Program} {loose : List Str} {XP : (Str → Option Value) → Heap → Prop} {YP : World → Heap → Prop} {d : DefRec} {K : Params → PySem.W.Frag} (hn : l.most = some 63) (hdf : d.params.defaults = [])
    (hY : ∀ (w : World) (h : Heap), YP w h → (K w.params).In h)
    (F : ∀ (w : World) (mg : Str → Option Value) (fa : Addr) (h : Heap), (K w.params).In h → h.Ns mainGlobals mg → mg d.name = some (.ref fa) →
      ∀ (base : Heap) (H : Hp) (a : Addr) (ns : List Int) (s : Shared), (K w.params).In base → base.Ns mainGlobals mg → Env0 l.prog w (K w.params) mg base callerA [] s H → SqL (K w.params) H a (ns.map V.int) →
        codeAny (model l.prog w) callerA (.call (.ref fa) ⟨[.ref a], []⟩) (CR CX0 [] l.prog w H s (fun v _ => v = .bl true) E0) s) :
    PySem.W.WalkO q loose XP YP l.row.toRowW d [] (fun f vs => PySem.call f vs) := by
  refine Att.attach_call hn hdf fun w s₀ s mg mb fa o pm cd doc a vs ns G Y ho hd hcd hmg hobj hints hlen hg => ?_
  have kin := hY w _ Y
  exact law_call86 (fun base H k1 g1 e0 hS => F w mg fa _ kin G.T.g hmg base H a ns s k1 g1 e0 hS) kin G.T.g G.T.b G.T.builtins G.T.nolimit hg hobj hints (Nat.le_trans hlen (by decide))
end K86

set_option Elab.async false
set_option linter.all false
set_option maxRecDepth 100000
set_option maxHeartbeats 4000000
namespace K86
open PySem PySem.Spec PyProof.Rows L2
open PySem.W (Frag findIn subIn typeIn keepIn hasDictIn clsIn mroIn codeIn nsIn specialIn takesIn ks_superIn fnIn excIn ksFn)
abbrev theProg : Program := PySem.Challenge.pw_withinlimits_k86_errors_told
/-- the __init__ that stands first in the i-th statement, a class -/
abbrev ini (i : Nat) : Stmt := inClass (top i) 0
/-- such a def as the top left it -/
def InitRec (K : Frag) (i a e : Addr) (q : Str) (st : Stmt) : Prop := ∃ (oc : Value) (od : Option Addr) (osl : Array (Option Value)) (kV doc pm : Value) (an : Option Addr) (ct : Value),
  K.lookup i = some ⟨oc, od, .func (ksFn "__init__" q (defArgs st) (defBody st) (defScope st) .none kV doc pm an (.ref a) ct e), osl⟩
def FunRec (K : Frag) (x : Str) (f : Addr) (cd : Value) (st : Stmt) : Prop := ∃ (oc : Value) (od an : Option Addr) (osl : Array (Option Value)) (kV doc pm ct : Value),
  K.lookup f = some ⟨oc, od, .func (PySem.W.fnOf x x (defArgs st) (defBody st) (defScope st) .none kV doc pm an cd ct), osl⟩
theorem initRec_mk {K : Frag} {i a e : Addr} {q : Str} {st : Stmt} {oc : Value} {od : Option Addr} {osl : Array (Option Value)} {kV doc pm : Value} {an : Option Addr} {ct : Value}
    (l : K.lookup i = some ⟨oc, od, .func (ksFn "__init__" q (defArgs st) (defBody st) (defScope st) .none kV doc pm an (.ref a) ct e), osl⟩) : InitRec K i a e q st := ⟨_, _, _, _, _, _, _, _, l⟩
theorem funRec_mk {K : Frag} {x : Str} {f : Addr} {cd : Value} {st : Stmt} {oc : Value} {od an : Option Addr} {osl : Array (Option Value)} {kV doc pm ct : Value}
    (l : K.lookup f = some ⟨oc, od, .func (PySem.W.fnOf x x (defArgs st) (defBody st) (defScope st) .none kV doc pm an cd ct), osl⟩) : FunRec K x f cd st := ⟨_, _, _, _, _, _, _, _, l⟩
theorem clsRec_mk {K : Frag} {C : Addr} {nm q : Str} {N : Addr} {bs bm : List Value} {sn : List Str} {sub : List Value} {ab : Bool} {col : Option Bool} {dd : Option Addr} {k0 k1 k2 k3 k5 : Option Value}
    (l : K.lookup C = some (excClassObj nm q C N bs bm true sn sub ab col dd k0 k1 k2 k3 k5 "ValueError.__new__")) (r : HandSPX.refsVE bm = true) : ClsRec K C := ⟨_, _, _, _, _, _, _, _, _, _, _, _, _, _, _, l, r⟩
def fileB (K : Frag) (a : Addr) : Bool := match K.lookup a with
  | some ⟨_, _, .fields vs, _⟩ => (match vs.toList with | _ :: _ :: .str file _ :: _ => (theProg.main.file : Str) == file | _ => false)
  | _ => false
def cellB (K : Frag) (e D : Addr) : Bool := match K.lookup e with
  | some ⟨_, _, .cell (some (.ref D')), _⟩ => D' == D
  | _ => false
def okD (K : Frag) (D a e : Addr) (q : Str) : Bool := codeIn K (.ref a) q && (fileB K a && (cellB K e D && (clsIn K D).isSome))
theorem defAt_of {K : Frag} {i D a e : Addr} {q : Str} {st : Stmt} (r : InitRec K i a e q st) (t : okD K D a e q = true) : ∃ fd, DefAt theProg K i D a e q (defArgs st) (defBody st) (defScope st) fd := by
  obtain ⟨oc, od, osl, kV, doc, pm, an, ct, l⟩ := r
  simp only [okD, Bool.and_eq_true] at t
  obtain ⟨t1, t2, t3, t4⟩ := t
  refine ⟨_, ⟨oc, od, osl, kV, doc, pm, an, ct, rfl, l⟩, t1, ?_, ?_, ?_⟩
  · unfold fileB at t2
    split at t2
    · rename_i ccl cdd vs ccs hl
      split at t2
      · rename_i v0 v1 file tf rest hv
        refine ⟨ccl, cdd, vs, ccs, file, tf, hl, ?_, t2⟩
        rw [← Array.getElem?_toList, hv]
        rfl
      · cases t2
    · cases t2
  · unfold cellB at t3
    split at t3
    · rename_i cl cld D' csl hl
      exact ⟨cl, cld, csl, by rw [hl, eq_of_beq t3]⟩
    · cases t3
  · exact Option.isSome_iff_exists.mp t4
section
variable {w : World} {K : Frag} {mg : Str → Option Value} {base : Heap} {C D fI cda cc : Addr} {q : Str} {fd : FuncData}
theorem mk_NoPart (M : ModK theProg K mg) (gC : mg "NoPart" = some (.ref C)) (r : ClsRec K C) (o : okC K C "path" = true) (i : okI K C C fI cda q (.builtin "ValueError.__init__") = true)
    (T : DefAt theProg K fI C cda cc q (defArgs (ini 2)) (defBody (ini 2)) (defScope (ini 2)) fd) : Kind theProg w K mg "NoPart" C "path" "path" :=
  kindA (f := "path") M gC r o i T ⟨⟨_, rfl, rfl⟩, rfl, rfl, rfl, by decide, rfl, rfl, rfl, rfl, by decide⟩ rfl (by decide) (fun _ _ _ _ _ _ _ => rfl) fun _ _ _ _ _ _ _ => rfl
theorem mk_NoRow (M : ModK theProg K mg) (gC : mg "NoRow" = some (.ref C)) (r : ClsRec K C) (o : okC K C "index" = true) (i : okI K C C fI cda q (.builtin "ValueError.__init__") = true)
    (T : DefAt theProg K fI C cda cc q (defArgs (ini 3)) (defBody (ini 3)) (defScope (ini 3)) fd) : Kind theProg w K mg "NoRow" C "index" "index" :=
  kindA (f := "index") M gC r o i T ⟨⟨_, rfl, rfl⟩, rfl, rfl, rfl, by decide, rfl, rfl, rfl, rfl, by decide⟩ rfl (by decide) (fun _ _ _ _ _ _ _ => rfl) fun _ _ _ _ _ _ _ => rfl
theorem mk_NoSet (M : ModK theProg K mg) (gC : mg "NoSet" = some (.ref C)) (r : ClsRec K C) (o : okC K C "place" = true) (i : okI K C C fI cda q (.builtin "ValueError.__init__") = true)
    (T : DefAt theProg K fI C cda cc q (defArgs (ini 4)) (defBody (ini 4)) (defScope (ini 4)) fd) : Kind theProg w K mg "NoSet" C "place" "place" :=
  kindA (f := "place") M gC r o i T ⟨⟨_, rfl, rfl⟩, rfl, rfl, rfl, by decide, rfl, rfl, rfl, rfl, by decide⟩ rfl (by decide) (fun _ _ _ _ _ _ _ => rfl) fun _ _ _ _ _ _ _ => rfl
theorem mk_NoText (M : ModK theProg K mg) (gC : mg "NoText" = some (.ref C)) (r : ClsRec K C) (o : okC K C "line" = true) (i : okI K C C fI cda q (.builtin "ValueError.__init__") = true)
    (T : DefAt theProg K fI C cda cc q (defArgs (ini 5)) (defBody (ini 5)) (defScope (ini 5)) fd) : Kind theProg w K mg "NoText" C "line" "line" :=
  kindA (f := "line") M gC r o i T ⟨⟨_, rfl, rfl⟩, rfl, rfl, rfl, by decide, rfl, rfl, rfl, rfl, by decide⟩ rfl (by decide) (fun _ _ _ _ _ _ _ => rfl) fun _ _ _ _ _ _ _ => rfl
theorem mk_NoWord (M : ModK theProg K mg) (gC : mg "NoWord" = some (.ref C)) (r : ClsRec K C) (o : okC K C "value" = true) (i : okI K C C fI cda q (.builtin "ValueError.__init__") = true)
    (T : DefAt theProg K fI C cda cc q (defArgs (ini 6)) (defBody (ini 6)) (defScope (ini 6)) fd) : Kind theProg w K mg "NoWord" C "value" "value" :=
  kindA (f := "value") M gC r o i T ⟨⟨_, rfl, rfl⟩, rfl, rfl, rfl, by decide, rfl, rfl, rfl, rfl, by decide⟩ rfl (by decide) (fun _ _ _ _ _ _ _ => rfl) fun _ _ _ _ _ _ _ => rfl
theorem mk_TooLarge (M : ModK theProg K mg) (gC : mg "TooLarge" = some (.ref C)) (r : ClsRec K C) (o : okC K C "limit" = true) (i : okI K C C fI cda q (.builtin "ValueError.__init__") = true)
    (T : DefAt theProg K fI C cda cc q (defArgs (ini 9)) (defBody (ini 9)) (defScope (ini 9)) fd) : Kind theProg w K mg "TooLarge" C "limit" "limit" :=
  kindA (f := "limit") M gC r o i T ⟨⟨_, rfl, rfl⟩, rfl, rfl, rfl, by decide, rfl, rfl, rfl, rfl, by decide⟩ rfl (by decide) (fun _ _ _ _ _ _ _ => rfl) fun _ _ _ _ _ _ _ => rfl
theorem mk_NoChange (M : ModK theProg K mg) (gC : mg "NoChange" = some (.ref C)) (r : ClsRec K C) (o : okC K C "value" = true) (i : okI K C C fI cda q (.builtin "ValueError.__init__") = true)
    (T : DefAt theProg K fI C cda cc q (defArgs (ini 8)) (defBody (ini 8)) (defScope (ini 8)) fd) : Kind theProg w K mg "NoChange" C "value" "change" :=
  kindA (f := "change") M gC r o i T ⟨⟨_, rfl, rfl⟩, rfl, rfl, rfl, by decide, rfl, rfl, rfl, rfl, by decide⟩ rfl (by decide) (fun _ _ _ _ _ _ _ => rfl) fun _ _ _ _ _ _ _ => rfl
theorem mk_Stopped (M : ModK theProg K mg) (gC : mg "Stopped" = some (.ref C)) (r : ClsRec K C) (o : okC K C "place" = true) (i : okI K C C fI cda q (.builtin "ValueError.__init__") = true)
    (T : DefAt theProg K fI C cda cc q (defArgs (ini 10)) (defBody (ini 10)) (defScope (ini 10)) fd) : Kind theProg w K mg "Stopped" C "place" "place" :=
  kindA (f := "place") M gC r o i T ⟨⟨_, rfl, rfl⟩, rfl, rfl, rfl, by decide, rfl, rfl, rfl, rfl, by decide⟩ rfl (by decide) (fun _ _ _ _ _ _ _ => rfl) fun _ _ _ _ _ _ _ => rfl
theorem mk_Beyond (M : ModK theProg K mg) (gC : mg "Beyond" = some (.ref C)) (r : ClsRec K C) (o : okC K C "place" = true) (i : okI K C D fI cda q (.builtin "ValueError.__init__") = true)
    (T : DefAt theProg K fI D cda cc q (defArgs (ini 10)) (defBody (ini 10)) (defScope (ini 10)) fd) : Kind theProg w K mg "Beyond" C "place" "place" :=
  kindA (f := "place") M gC r o i T ⟨⟨_, rfl, rfl⟩, rfl, rfl, rfl, by decide, rfl, rfl, rfl, rfl, by decide⟩ rfl (by decide) (fun _ _ _ _ _ _ _ => rfl) fun _ _ _ _ _ _ _ => rfl
theorem mk_Endless (M : ModK theProg K mg) (gC : mg "Endless" = some (.ref C)) (r : ClsRec K C) (o : okC K C "place" = true) (i : okI K C D fI cda q (.builtin "ValueError.__init__") = true)
    (T : DefAt theProg K fI D cda cc q (defArgs (ini 10)) (defBody (ini 10)) (defScope (ini 10)) fd) : Kind theProg w K mg "Endless" C "place" "place" :=
  kindA (f := "place") M gC r o i T ⟨⟨_, rfl, rfl⟩, rfl, rfl, rfl, by decide, rfl, rfl, rfl, rfl, by decide⟩ rfl (by decide) (fun _ _ _ _ _ _ _ => rfl) fun _ _ _ _ _ _ _ => rfl
def okS (K : Frag) (C S : Addr) : Bool := mroIn K C (.ref S) == some true && (ks_superIn K C S "__init__" == some (some (.builtin "ValueError.__init__")) && (subIn K (.ref C) (.type "ValueError") == some true && findIn K (.ref C) "place" == some none))
theorem mk_Refused {S f2 ca2 cc2 : Addr} {q2 : Str} {fd2 : FuncData} (M : ModK theProg K mg) (gC : mg "Refused" = some (.ref C)) (r : ClsRec K C) (o : okC K C "place" = true) (i : okI K C C fI cda q (.ref f2) = true) (o2 : okR K C f2 = true) (o3 : okS K C S = true)
    (T : DefAt theProg K fI C cda cc q (defArgs (ini 11)) (defBody (ini 11)) (defScope (ini 11)) fd) (T2 : DefAt theProg K f2 S ca2 cc2 q2 (defArgs (ini 10)) (defBody (ini 10)) (defScope (ini 10)) fd2) : KindR theProg w K mg C := by
  simp only [okS, Bool.and_eq_true, beq_iff_eq] at o3
  obtain ⟨s1, s2, s3, s4⟩ := o3
  refine kindR M gC r o i o2 T ⟨⟨_, rfl, rfl⟩, rfl, rfl, rfl, by decide, rfl, rfl, rfl, rfl, by decide⟩ rfl (fun base MO O => ?_) (fun _ _ _ _ _ _ _ _ => rfl) fun _ _ _ _ _ _ _ _ => rfl
  exact aboveA (f := "place") MO O T2 ⟨⟨_, rfl, rfl⟩, rfl, rfl, rfl, by decide, rfl, rfl, rfl, rfl, by decide⟩ rfl (by decide) s1 s2 s3 s4 fun _ _ _ _ _ _ _ => rfl
end
def kitB (K : Frag) (C : Addr) (i : Nat) (c0 c1 c2 c3 c4 c5 c6 c7 c8 c9 c10 c11 cL : Addr) : Bool := PySem.W.kitOne K (.ref C) (.ref c0) == some (tab i 0) && (PySem.W.kitOne K (.ref C) (.ref c1) == some (tab i 1) && (PySem.W.kitOne K (.ref C) (.ref c2) == some (tab i 2) && (PySem.W.kitOne K (.ref C) (.ref c3) == some (tab i 3) && (PySem.W.kitOne K (.ref C) (.ref c4) == some (tab i 4) && (PySem.W.kitOne K (.ref C) (.ref c5) == some (tab i 5) && (PySem.W.kitOne K (.ref C) (.ref c6) == some (tab i 6) && (PySem.W.kitOne K (.ref C) (.ref c7) == some (tab i 7) && (PySem.W.kitOne K (.ref C) (.ref c8) == some (tab i 8) && (PySem.W.kitOne K (.ref C) (.ref c9) == some (tab i 9) && (PySem.W.kitOne K (.ref C) (.ref c10) == some (tab i 10) && (PySem.W.kitOne K (.ref C) (.ref c11) == some (tab i 11) && (PySem.W.kitOne K (.ref C) (.ref cL) == some true && (PySem.W.kitOne K (.ref C) (.type "ValueError") == some true)))))))))))))
theorem kit_of {K : Frag} {C : Addr} {i : Nat} {c0 c1 c2 c3 c4 c5 c6 c7 c8 c9 c10 c11 cL : Addr} (h : kitB K C i c0 c1 c2 c3 c4 c5 c6 c7 c8 c9 c10 c11 cL = true) : KitRow K C i c0 c1 c2 c3 c4 c5 c6 c7 c8 c9 c10 c11 cL := by
  simp only [kitB, Bool.and_eq_true, beq_iff_eq] at h
  obtain ⟨k0, k1, k2, k3, k4, k5, k6, k7, k8, k9, k10, k11, kL, kV⟩ := h
  exact ⟨k0, k1, k2, k3, k4, k5, k6, k7, k8, k9, k10, k11, kL, kV⟩
def rowsB (K : Frag) (c0 c1 c2 c3 c4 c5 c6 c7 c8 c9 c10 c11 cL : Addr) : Bool := kitB K c0 0 c0 c1 c2 c3 c4 c5 c6 c7 c8 c9 c10 c11 cL && (kitB K c1 1 c0 c1 c2 c3 c4 c5 c6 c7 c8 c9 c10 c11 cL && (kitB K c2 2 c0 c1 c2 c3 c4 c5 c6 c7 c8 c9 c10 c11 cL && (kitB K c3 3 c0 c1 c2 c3 c4 c5 c6 c7 c8 c9 c10 c11 cL && (kitB K c4 4 c0 c1 c2 c3 c4 c5 c6 c7 c8 c9 c10 c11 cL && (kitB K c5 5 c0 c1 c2 c3 c4 c5 c6 c7 c8 c9 c10 c11 cL && (kitB K c6 6 c0 c1 c2 c3 c4 c5 c6 c7 c8 c9 c10 c11 cL && (kitB K c7 7 c0 c1 c2 c3 c4 c5 c6 c7 c8 c9 c10 c11 cL && (kitB K c8 8 c0 c1 c2 c3 c4 c5 c6 c7 c8 c9 c10 c11 cL && (kitB K c9 9 c0 c1 c2 c3 c4 c5 c6 c7 c8 c9 c10 c11 cL && (kitB K c10 10 c0 c1 c2 c3 c4 c5 c6 c7 c8 c9 c10 c11 cL && (kitB K c11 11 c0 c1 c2 c3 c4 c5 c6 c7 c8 c9 c10 c11 cL)))))))))))
theorem rows_of {K : Frag} {c0 c1 c2 c3 c4 c5 c6 c7 c8 c9 c10 c11 cL : Addr} (h : rowsB K c0 c1 c2 c3 c4 c5 c6 c7 c8 c9 c10 c11 cL = true) : Rows K c0 c1 c2 c3 c4 c5 c6 c7 c8 c9 c10 c11 cL := by
  simp only [rowsB, Bool.and_eq_true] at h
  obtain ⟨k0, k1, k2, k3, k4, k5, k6, k7, k8, k9, k10, k11⟩ := h
  exact ⟨kit_of k0, kit_of k1, kit_of k2, kit_of k3, kit_of k4, kit_of k5, kit_of k6, kit_of k7, kit_of k8, kit_of k9, kit_of k10, kit_of k11⟩
def noB (K : Frag) (x : Str) : Bool := nsIn K mainGlobals x == some none
def namesB (K : Frag) : Bool := noB K "len" && (noB K "abs" && (noB K "int" && (noB K "isinstance" && (noB K "ValueError" && (noB K "range" && (noB K "enumerate" && (noB K "zip" && (noB K "repr" && (noB K "max" && (noB K "min"))))))))))
theorem no_of {K : Frag} {h : Heap} {mg : Str → Option Value} {x : Str} (X : K.In h) (G : h.Ns mainGlobals mg) (e : noB K x = true) : mg x = none := by
  refine PySem.W.mg_none_of X G ?_
  simpa only [noB, beq_iff_eq] using e
theorem names_of {K : Frag} {h : Heap} {mg : Str → Option Value} (X : K.In h) (G : h.Ns mainGlobals mg) (e : namesB K = true) : Names mg := by
  simp only [namesB, Bool.and_eq_true] at e
  obtain ⟨n0, n1, n2, n3, n4, n5, n6, n7, n8, n9, n10⟩ := e
  exact ⟨no_of X G n0, no_of X G n1, no_of X G n2, no_of X G n3, no_of X G n4, no_of X G n5, no_of X G n6, no_of X G n7, no_of X G n8, no_of X G n9, no_of X G n10⟩
def tableB (K : Frag) (c0 c1 c2 c3 c4 c5 c6 c7 c8 c9 c10 c11 cL i0 i1 i2 i3 i4 i5 i7 i8 i9 a0 a1 a2 a3 a4 a5 a7 a8 a9 e0 e1 e2 e3 e4 e5 e7 e8 e9 fP fU fT fO fN fF fC fK fL : Addr) (dP dU dT dO dN dF dC dK dL : Value) : Bool := okM K && (noB K "super" && (namesB K && (rowsB K c0 c1 c2 c3 c4 c5 c6 c7 c8 c9 c10 c11 cL && (okC K c0 "path" && (okC K c1 "index" && (okC K c2 "place" && (okC K c3 "line" && (okC K c4 "value" && (okC K c5 "limit" && (okC K c6 "place" && (okC K c7 "value" && (okC K c8 "place" && (okC K c9 "place" && (okC K c10 "place" && (okC K c11 "place" && (okI K c0 c0 i0 a0 "NoPart.__init__" (.builtin "ValueError.__init__") && (okD K c0 a0 e0 "NoPart.__init__" && (okI K c1 c1 i1 a1 "NoRow.__init__" (.builtin "ValueError.__init__") && (okD K c1 a1 e1 "NoRow.__init__" && (okI K c2 c2 i2 a2 "NoSet.__init__" (.builtin "ValueError.__init__") && (okD K c2 a2 e2 "NoSet.__init__" && (okI K c3 c3 i3 a3 "NoText.__init__" (.builtin "ValueError.__init__") && (okD K c3 a3 e3 "NoText.__init__" && (okI K c4 c4 i4 a4 "NoWord.__init__" (.builtin "ValueError.__init__") && (okD K c4 a4 e4 "NoWord.__init__" && (okI K c5 c5 i5 a5 "TooLarge.__init__" (.builtin "ValueError.__init__") && (okD K c5 a5 e5 "TooLarge.__init__" && (okI K c7 c7 i7 a7 "NoChange.__init__" (.builtin "ValueError.__init__") && (okD K c7 a7 e7 "NoChange.__init__" && (okI K c8 c8 i8 a8 "Stopped.__init__" (.builtin "ValueError.__init__") && (okD K c8 a8 e8 "Stopped.__init__" && (okI K c9 c9 i9 a9 "Refused.__init__" (.ref i8) && (okD K c9 a9 e9 "Refused.__init__" && (okI K c10 c8 i8 a8 "Stopped.__init__" (.builtin "ValueError.__init__") && (okI K c11 c8 i8 a8 "Stopped.__init__" (.builtin "ValueError.__init__") && (okR K c9 i8 && (okS K c9 c8 && (excIn K c6 [.type "ValueError", .type "Exception", .type "BaseException", .type "object"] "ValueError.__new__" && (codeIn K dP "_law_pool" && (keepIn K (.ref fP) && (codeIn K dU "_law_take" && (keepIn K (.ref fU) && (codeIn K dT "_law_things" && (keepIn K (.ref fT) && (codeIn K dO "_law_by_position" && (keepIn K (.ref fO) && (codeIn K dN "_law_by_name" && (keepIn K (.ref fN) && (codeIn K dF "_law_fields" && (keepIn K (.ref fF) && (codeIn K dC "_law_classes" && (keepIn K (.ref fC) && (codeIn K dK "_law_kinds_right" && (keepIn K (.ref fK) && (codeIn K dL "law" && (keepIn K (.ref fL)))))))))))))))))))))))))))))))))))))))))))))))))))))))))
theorem all_mk {w : World} {K : Frag} {h : Heap} {mg : Str → Option Value} {fa : Addr} (X : K.In h) (G : h.Ns mainGlobals mg) (hfa : mg "law" = some (.ref fa)) {c0 c1 c2 c3 c4 c5 c6 c7 c8 c9 c10 c11 cL i0 i1 i2 i3 i4 i5 i7 i8 i9 a0 a1 a2 a3 a4 a5 a7 a8 a9 e0 e1 e2 e3 e4 e5 e7 e8 e9 fP fU fT fO fN fF fC fK fL : Addr} {dP dU dT dO dN dF dC dK dL : Value}
    (nL : nsIn K mainGlobals "LimitError" = some (some (.ref cL)))
    (n0 : nsIn K mainGlobals "NoPart" = some (some (.ref c0)))
    (n1 : nsIn K mainGlobals "NoRow" = some (some (.ref c1)))
    (n2 : nsIn K mainGlobals "NoSet" = some (some (.ref c2)))
    (n3 : nsIn K mainGlobals "NoText" = some (some (.ref c3)))
    (n4 : nsIn K mainGlobals "NoWord" = some (some (.ref c4)))
    (n5 : nsIn K mainGlobals "TooLarge" = some (some (.ref c5)))
    (n6 : nsIn K mainGlobals "NoPaper" = some (some (.ref c6)))
    (n7 : nsIn K mainGlobals "NoChange" = some (some (.ref c7)))
    (n8 : nsIn K mainGlobals "Stopped" = some (some (.ref c8)))
    (n9 : nsIn K mainGlobals "Refused" = some (some (.ref c9)))
    (n10 : nsIn K mainGlobals "Beyond" = some (some (.ref c10)))
    (n11 : nsIn K mainGlobals "Endless" = some (some (.ref c11)))
    (j0 : findIn K (.ref c0) "__init__" = some (some (.ref i0)))
    (j1 : findIn K (.ref c1) "__init__" = some (some (.ref i1)))
    (j2 : findIn K (.ref c2) "__init__" = some (some (.ref i2)))
    (j3 : findIn K (.ref c3) "__init__" = some (some (.ref i3)))
    (j4 : findIn K (.ref c4) "__init__" = some (some (.ref i4)))
    (j5 : findIn K (.ref c5) "__init__" = some (some (.ref i5)))
    (j7 : findIn K (.ref c7) "__init__" = some (some (.ref i7)))
    (j8 : findIn K (.ref c8) "__init__" = some (some (.ref i8)))
    (j9 : findIn K (.ref c9) "__init__" = some (some (.ref i9)))
    (l0 : InitRec K i0 a0 e0 "NoPart.__init__" (ini 2))
    (l1 : InitRec K i1 a1 e1 "NoRow.__init__" (ini 3))
    (l2 : InitRec K i2 a2 e2 "NoSet.__init__" (ini 4))
    (l3 : InitRec K i3 a3 e3 "NoText.__init__" (ini 5))
    (l4 : InitRec K i4 a4 e4 "NoWord.__init__" (ini 6))
    (l5 : InitRec K i5 a5 e5 "TooLarge.__init__" (ini 9))
    (l7 : InitRec K i7 a7 e7 "NoChange.__init__" (ini 8))
    (l8 : InitRec K i8 a8 e8 "Stopped.__init__" (ini 10))
    (l9 : InitRec K i9 a9 e9 "Refused.__init__" (ini 11))
    (r0 : ClsRec K c0)
    (r1 : ClsRec K c1)
    (r2 : ClsRec K c2)
    (r3 : ClsRec K c3)
    (r4 : ClsRec K c4)
    (r5 : ClsRec K c5)
    (r7 : ClsRec K c7)
    (r8 : ClsRec K c8)
    (r9 : ClsRec K c9)
    (r10 : ClsRec K c10)
    (r11 : ClsRec K c11)
    (mP : nsIn K mainGlobals "_law_pool" = some (some (.ref fP)))
    (mU : nsIn K mainGlobals "_law_take" = some (some (.ref fU)))
    (mT : nsIn K mainGlobals "_law_things" = some (some (.ref fT)))
    (mO : nsIn K mainGlobals "_law_by_position" = some (some (.ref fO)))
    (mN : nsIn K mainGlobals "_law_by_name" = some (some (.ref fN)))
    (mF : nsIn K mainGlobals "_law_fields" = some (some (.ref fF)))
    (mC : nsIn K mainGlobals "_law_classes" = some (some (.ref fC)))
    (mK : nsIn K mainGlobals "_law_kinds_right" = some (some (.ref fK)))
    (mL : nsIn K mainGlobals "law" = some (some (.ref fL)))
    (qP : FunRec K "_law_pool" fP dP sPool)
    (qU : FunRec K "_law_take" fU dU sTake)
    (qT : FunRec K "_law_things" fT dT sThings)
    (qO : FunRec K "_law_by_position" fO dO sPos)
    (qN : FunRec K "_law_by_name" fN dN sName)
    (qF : FunRec K "_law_fields" fF dF sFields)
    (qC : FunRec K "_law_classes" fC dC sClasses)
    (qK : FunRec K "_law_kinds_right" fK dK sKinds)
    (qL : FunRec K "law" fL dL sLaw)
    (tb : tableB K c0 c1 c2 c3 c4 c5 c6 c7 c8 c9 c10 c11 cL i0 i1 i2 i3 i4 i5 i7 i8 i9 a0 a1 a2 a3 a4 a5 a7 a8 a9 e0 e1 e2 e3 e4 e5 e7 e8 e9 fP fU fT fO fN fF fC fK fL dP dU dT dO dN dF dC dK dL = true) :
    ∀ (base : Heap) (H : Hp) (a : Addr) (ns : List Int) (s : Shared), K.In base → base.Ns mainGlobals mg → Env0 theProg w K mg base callerA [] s H → SqL K H a (ns.map V.int) →
      codeAny (model theProg w) callerA (.call (.ref fa) ⟨[.ref a], []⟩) (CR CX0 [] theProg w H s (fun v _ => v = .bl true) E0) s := by
  intro base H a ns s _ _ e0 hS
  cases hfa.symm.trans (PySem.W.mg_of X G mL)
  simp only [tableB, Bool.and_eq_true] at tb
  obtain ⟨bM, bS, bN, bR, oc0, oc1, oc2, oc3, oc4, oc5, oc6, oc7, oc8, oc9, oc10, oc11, oi0, od0, oi1, od1, oi2, od2, oi3, od3, oi4, od4, oi5, od5, oi7, od7, oi8, od8, oi9, od9, oi10, oi11, oR, oS, oX, cdP, kpP, cdU, kpU, cdT, kpT, cdO, kpO, cdN, kpN, cdF, kpF, cdC, kpC, cdK, kpK, cdL, kpL⟩ := tb
  have M : ModK theProg K mg := ⟨bM, no_of X G bS, by decide +kernel⟩
  have N := names_of X G bN
  have R := rows_of bR
  obtain ⟨x0, D0⟩ := defAt_of l0 od0
  obtain ⟨x1, D1⟩ := defAt_of l1 od1
  obtain ⟨x2, D2⟩ := defAt_of l2 od2
  obtain ⟨x3, D3⟩ := defAt_of l3 od3
  obtain ⟨x4, D4⟩ := defAt_of l4 od4
  obtain ⟨x5, D5⟩ := defAt_of l5 od5
  obtain ⟨x7, D7⟩ := defAt_of l7 od7
  obtain ⟨x8, D8⟩ := defAt_of l8 od8
  obtain ⟨x9, D9⟩ := defAt_of l9 od9
  have KN : Kinds theProg w K mg c0 c1 c2 c3 c4 c5 c6 c7 c8 c9 c10 c11 :=
    ⟨mk_NoPart M (PySem.W.mg_of X G n0) r0 oc0 oi0 D0,
      mk_NoRow M (PySem.W.mg_of X G n1) r1 oc1 oi1 D1,
      mk_NoSet M (PySem.W.mg_of X G n2) r2 oc2 oi2 D2,
      mk_NoText M (PySem.W.mg_of X G n3) r3 oc3 oi3 D3,
      mk_NoWord M (PySem.W.mg_of X G n4) r4 oc4 oi4 D4,
      mk_TooLarge M (PySem.W.mg_of X G n5) r5 oc5 oi5 D5,
      ⟨PySem.W.mg_of X G n6, (readC_of M oc6).2.2, oX, (readC_of M oc6).1⟩,
      mk_NoChange M (PySem.W.mg_of X G n7) r7 oc7 oi7 D7,
      mk_Stopped M (PySem.W.mg_of X G n8) r8 oc8 oi8 D8,
      mk_Refused M (PySem.W.mg_of X G n9) r9 oc9 oi9 oR oS D9 D8,
      mk_Beyond M (PySem.W.mg_of X G n10) r10 oc10 oi10 D8,
      mk_Endless M (PySem.W.mg_of X G n11) r11 oc11 oi11 D8⟩
  obtain ⟨u1P, u2P, u3P, u4P, u5P, u6P, u7P, u8P, yP⟩ := qP
  have FP := fun_mk (st := sPool) yP cdP kpP
  have bP := FP.binds (ps := ["script", "k"]) fun _ _ _ _ _ _ us hl => match us, hl with | [_, _], _ => rfl
  obtain ⟨u1U, u2U, u3U, u4U, u5U, u6U, u7U, u8U, yU⟩ := qU
  have FU := fun_mk (st := sTake) yU cdU kpU
  have bU := FU.binds (ps := ["pool", "many"]) fun _ _ _ _ _ _ us hl => match us, hl with | [_, _], _ => rfl
  obtain ⟨u1T, u2T, u3T, u4T, u5T, u6T, u7T, u8T, yT⟩ := qT
  have FT := fun_mk (st := sThings) yT cdT kpT
  have bT := FT.binds (ps := ["pool"]) fun _ _ _ _ _ _ us hl => match us, hl with | [_], _ => rfl
  obtain ⟨u1O, u2O, u3O, u4O, u5O, u6O, u7O, u8O, yO⟩ := qO
  have FO := fun_mk (st := sPos) yO cdO kpO
  have bO := FO.binds (ps := ["some"]) fun _ _ _ _ _ _ us hl => match us, hl with | [_], _ => rfl
  obtain ⟨u1N, u2N, u3N, u4N, u5N, u6N, u7N, u8N, yN⟩ := qN
  have FN := fun_mk (st := sName) yN cdN kpN
  have bN' := FN.binds (ps := ["some"]) fun _ _ _ _ _ _ us hl => match us, hl with | [_], _ => rfl
  obtain ⟨u1F, u2F, u3F, u4F, u5F, u6F, u7F, u8F, yF⟩ := qF
  have FF := fun_mk (st := sFields) yF cdF kpF
  have bF := FF.binds (ps := ["made"]) fun _ _ _ _ _ _ us hl => match us, hl with | [_], _ => rfl
  obtain ⟨u1C, u2C, u3C, u4C, u5C, u6C, u7C, u8C, yC⟩ := qC
  have FC := fun_mk (st := sClasses) yC cdC kpC
  have bC := FC.binds (ps := ["one"]) fun _ _ _ _ _ _ us hl => match us, hl with | [_], _ => rfl
  obtain ⟨u1K, u2K, u3K, u4K, u5K, u6K, u7K, u8K, yK⟩ := qK
  have FK := fun_mk (st := sKinds) yK cdK kpK
  have bK := FK.binds (ps := ["at", "one"]) fun _ _ _ _ _ _ us hl => match us, hl with | [_, _], _ => rfl
  obtain ⟨u1L, u2L, u3L, u4L, u5L, u6L, u7L, u8L, yL⟩ := qL
  have FL := fun_mk (st := sLaw) yL cdL kpL
  have gP := PySem.W.mg_of X G mP
  have gU := PySem.W.mg_of X G mU
  have gT := PySem.W.mg_of X G mT
  have gO := PySem.W.mg_of X G mO
  have gN := PySem.W.mg_of X G mN
  have gF := PySem.W.mg_of X G mF
  have gC := PySem.W.mg_of X G mC
  have gK := PySem.W.mg_of X G mK
  have gL := PySem.W.mg_of X G mL
  have gL' : mg "LimitError" = some (.ref cL) := PySem.W.mg_of X G nL
  have DD : Defs theProg w K mg base c0 c1 c2 c3 c4 c5 c6 c7 c8 c9 c10 c11 cL fP fT fO fN fF fK _ _ _ _ _ _ := ⟨ok_pool FP N, ok_things FT FU bU gU, ok_pos FO KN, ok_name FN KN, ok_fields FF KN, ok_kinds FK KN N gL' FC bC gC, gP, gT, gO, gN, gF, gK, kpP, kpT, kpO, kpN, kpF, kpK, bP, bT, bO, bN', bF, bK⟩
  exact law_run FL DD KN R N e0 hS
end K86

open PySem PySem.W PyProof.Rows
set_option Elab.async false
set_option maxRecDepth 100000 in
set_option maxHeartbeats 0 in
theorem PySem.Challenge.cw_withinlimits_k86_errors_told_holds : PySem.Challenge.rw_withinlimits_k86_errors_told.Holds := by
  w_on; o_law; k_head; (case hw => w_witness2)
  k_fill
  refine K86.walk86 (l := PySem.Challenge.rw_withinlimits_k86_errors_told) rfl rfl (fun w h Y => PySem.W.kIn_of Y) ?F
  case F =>
    intro w mg fa h KX G hmg0
    have hmg : mg (PySem.Str.ofString "law") = some (.ref fa) := hmg0
    clear hmg0
    refine' K86.all_mk KX G hmg ?nL ?n0 ?n1 ?n2 ?n3 ?n4 ?n5 ?n6 ?n7 ?n8 ?n9 ?n10 ?n11 ?j0 ?j1 ?j2 ?j3 ?j4 ?j5 ?j7 ?j8 ?j9 ?l0 ?l1 ?l2 ?l3 ?l4 ?l5 ?l7 ?l8 ?l9 ?r0 ?r1 ?r2 ?r3 ?r4 ?r5 ?r7 ?r8 ?r9 ?r10 ?r11 ?mP ?mU ?mT ?mO ?mN ?mF ?mC ?mK ?mL ?qP ?qU ?qT ?qO ?qN ?qF ?qC ?qK ?qL ?tb
    (case nL => k_is)
    (case n0 => k_is)
    (case n1 => k_is)
    (case n2 => k_is)
    (case n3 => k_is)
    (case n4 => k_is)
    (case n5 => k_is)
    (case n6 => k_is)
    (case n7 => k_is)
    (case n8 => k_is)
    (case n9 => k_is)
    (case n10 => k_is)
    (case n11 => k_is)
    (case j0 => k_is)
    (case j1 => k_is)
    (case j2 => k_is)
    (case j3 => k_is)
    (case j4 => k_is)
    (case j5 => k_is)
    (case j7 => k_is)
    (case j8 => k_is)
    (case j9 => k_is)
    (case l0 => refine' K86.initRec_mk ?z; (case z => k_is))
    (case l1 => refine' K86.initRec_mk ?z; (case z => k_is))
    (case l2 => refine' K86.initRec_mk ?z; (case z => k_is))
    (case l3 => refine' K86.initRec_mk ?z; (case z => k_is))
    (case l4 => refine' K86.initRec_mk ?z; (case z => k_is))
    (case l5 => refine' K86.initRec_mk ?z; (case z => k_is))
    (case l7 => refine' K86.initRec_mk ?z; (case z => k_is))
    (case l8 => refine' K86.initRec_mk ?z; (case z => k_is))
    (case l9 => refine' K86.initRec_mk ?z; (case z => k_is))
    (case r0 => refine' K86.clsRec_mk ?z ?y; (case z => k_is); (case y => kernel_rfl))
    (case r1 => refine' K86.clsRec_mk ?z ?y; (case z => k_is); (case y => kernel_rfl))
    (case r2 => refine' K86.clsRec_mk ?z ?y; (case z => k_is); (case y => kernel_rfl))
    (case r3 => refine' K86.clsRec_mk ?z ?y; (case z => k_is); (case y => kernel_rfl))
    (case r4 => refine' K86.clsRec_mk ?z ?y; (case z => k_is); (case y => kernel_rfl))
    (case r5 => refine' K86.clsRec_mk ?z ?y; (case z => k_is); (case y => kernel_rfl))
    (case r7 => refine' K86.clsRec_mk ?z ?y; (case z => k_is); (case y => kernel_rfl))
    (case r8 => refine' K86.clsRec_mk ?z ?y; (case z => k_is); (case y => kernel_rfl))
    (case r9 => refine' K86.clsRec_mk ?z ?y; (case z => k_is); (case y => kernel_rfl))
    (case r10 => refine' K86.clsRec_mk ?z ?y; (case z => k_is); (case y => kernel_rfl))
    (case r11 => refine' K86.clsRec_mk ?z ?y; (case z => k_is); (case y => kernel_rfl))
    (case mP => k_is)
    (case mU => k_is)
    (case mT => k_is)
    (case mO => k_is)
    (case mN => k_is)
    (case mF => k_is)
    (case mC => k_is)
    (case mK => k_is)
    (case mL => k_is)
    (case qP => refine' K86.funRec_mk ?z; (case z => k_is))
    (case qU => refine' K86.funRec_mk ?z; (case z => k_is))
    (case qT => refine' K86.funRec_mk ?z; (case z => k_is))
    (case qO => refine' K86.funRec_mk ?z; (case z => k_is))
    (case qN => refine' K86.funRec_mk ?z; (case z => k_is))
    (case qF => refine' K86.funRec_mk ?z; (case z => k_is))
    (case qC => refine' K86.funRec_mk ?z; (case z => k_is))
    (case qK => refine' K86.funRec_mk ?z; (case z => k_is))
    (case qL => refine' K86.funRec_mk ?z; (case z => k_is))
    (case tb => kernel_rfl)
