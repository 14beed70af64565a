import PyProof.Rows.All
import Wide.All
import OpenK.AllK
import Wide.FinOn
import HandS.ForMost
import HandS.ForExc
import HandS.Flow
import HandS.Wide
import HandS.Deep
import HandS.FStr
import KE.KExcSuper
import KE.KExcInit
import KE.KExcIs
import HandS.ExcValue
import HandS.ExcInit
import HandS.ExcIs
import HandS.ExcField
import PyProof.Rows.FactsExc_KeyError
import HandS.Dict
import HandS.Codes
import KE.KIsAll
import PyProof.ReprReads
import HandS.IsInst
import PyProof.ReprRoads
import HandS.Ends
import PySem.Challenge.RW_needrows_k00_errors
import PyProof.ReprLen
import PyProof.FitsInt
section
set_option Elab.async false
set_option linter.all false
set_option maxRecDepth 100000
set_option maxHeartbeats 1000000
/-! NdG: what a def promises where no repr is under way (so that repr of lists can be told). -/
namespace Nd
open PySem PySem.Spec PyProof.Rows L2
/-- as FnOk, asked only where no repr is under way -/
structure FnG (P : Program) (w : World) (K : PySem.W.Frag) (mg : Str → Option Value) (base : Heap) (CX : CXT) (k : Nat) (f : Addr) (fd : FuncData) (ps : List Str) (sp : Sp) : Prop where
  len : ∀ vs H Q E, sp vs H Q E → vs.length = ps.length
  run : ∀ (A : Around) (outer : List Env) (s : Shared) (H : Hp) (args : Args) (us : List Value) (vs : List V) (Q : VK) (E : XK), Room k A → A.guards = some [] → Env0 P w K mg base A outer s H →
    BindsTo s fd args (ps.zip us) → Vals vs us → sp vs H Q E → codeAny (model P w) A (.call (.ref f) args) (CR CX outer P w H s Q E) s
theorem FnOk.toG {P : Program} {w : World} {K : PySem.W.Frag} {mg : Str → Option Value} {base : Heap} {CX : CXT} {k : Nat} {f : Addr} {fd : FuncData} {ps : List Str} {sp : Sp} (F : FnOk P w K mg base CX k f fd ps sp) : FnG P w K mg base CX k f fd ps sp :=
  ⟨F.len, fun A outer s H args us vs Q E hr _ => F.run A outer s H args us vs Q E hr⟩
theorem FnG.imp {P : Program} {w : World} {K : PySem.W.Frag} {mg : Str → Option Value} {base : Heap} {CX : CXT} {k : Nat} {f : Addr} {fd : FuncData} {ps : List Str} {sp sp' : Sp} (F : FnG P w K mg base CX k f fd ps sp)
    (h : ∀ vs H Q E, sp' vs H Q E → sp vs H Q E) : FnG P w K mg base CX k f fd ps sp' :=
  ⟨fun vs H Q E q => F.len vs H Q E (h _ _ _ _ q), fun A outer s H args us vs Q E hr hg he hb hv hs => F.run A outer s H args us vs Q E hr hg he hb hv (h _ _ _ _ hs)⟩
section
variable {X : Cx} {CX : CXT} {k : Nat} {f : Addr} {fd : FuncData} {ps : List Str} {sp : Sp} {E : XK} {x : Str} {p pos : Pos} {e : PySem.Expr} {es : List PySem.Expr} {t : TA}
/-- it is called in a body -/
theorem runG {pins : List (Addr × Obj)} {σ : L2.St} {H : Hp} {s : Shared} {Q : VK} {us : List Value} {vs : List V} (F : FnG X.prog X.w X.K X.mg X.base CX k f fd ps sp) (hr : Room k X.A) (hg : X.A.guards = some []) (hb : Binds X.K fd ps []) (hx : Passes CX X E)
    (I : Inv X pins σ H s) (r : Vals vs us) (h : sp vs H Q E) : wpAny (model X.prog X.w) X.A (call (.ref f) us) (EP X pins σ Q) X.xe s := by
  have hl : us.length = ps.length := r.length.symm.trans (F.len _ _ _ _ h)
  have hbind := hb s us I.kIn (by rw [List.append_nil]; exact hl)
  rw [List.append_nil] at hbind
  refine wpAny_call (codeAny_mono (F.run X.A X.stack s H ⟨us, []⟩ us vs Q E hr hg I.env0 hbind r h) fun res s' hq => ?_)
  match res, hq with
  | .error er, hq => exact hx pins σ H s er s' I hq
  | .ok (.ret u), hq => exact I.after hq
def tCallG (sp : Sp) (E : XK) (t : TA) : TE := fun σ H Q => t σ H fun vs H1 => sp vs H1 Q E
theorem pe_callG (F : FnG X.prog X.w X.K X.mg X.base CX k f fd ps sp) (hr : Room k X.A) (hgd : X.A.guards = some []) (hg : Gl X x) (hm : X.mg x = some (.ref f)) (hk : PySem.W.keepIn X.K (.ref f) = true) (hb : Binds X.K fd ps []) (hx : Passes CX X E)
    (ha : PA X (e :: es) t) (hdb : (x == ("__debug__" : Str)) = false) (he : starEach (e :: es) X.env = (false, eval e X.env) :: starEach es X.env) (hpl : (backTo pos (starEach es X.env)).any (·.1) = false) :
    PE X (.Call (.Name x p) (e :: es) [] pos) (tCallG sp E t) :=
  ⟨fun pins s σ H Q I h => wpAny_Call_Name_kw (ld_glob I hg hm (PySem.W.callWith_K (h₀ := X.base) I.ok.mod.kin hk (thn (ha.run pos pins s σ H _ I h) fun us s1 ⟨vs, H1, I1, r, q⟩ => ⟨I1.kIn, runG F hr hgd hb hx I1 r q⟩) he hpl) hdb)⟩
theorem pe_callG0 (F : FnG X.prog X.w X.K X.mg X.base CX k f fd ps sp) (hr : Room k X.A) (hgd : X.A.guards = some []) (hg : Gl X x) (hm : X.mg x = some (.ref f)) (hk : PySem.W.keepIn X.K (.ref f) = true) (hb : Binds X.K fd ps []) (hx : Passes CX X E)
    (hdb : (x == ("__debug__" : Str)) = false) : PE X (.Call (.Name x p) [] [] pos) (tCallG sp E tNil) := by
  refine ⟨fun pins s σ H Q I h => ?_⟩
  refine wpAny_Call_Name_kw (ld_glob I hg hm ?_ hdb)
  exact PySem.W.callWith_K0 I.kIn hk (runG (us := []) F hr hgd hb hx I .nil h)
end
/-- a def by its body, where no repr is under way -/
theorem fnG_of {P : Program} {w : World} {K : PySem.W.Frag} {mg : Str → Option Value} {base : Heap} {x qual : Str} {st : PySem.Stmt} {f : Addr} {fd : FuncData} {N ps : List Str} {k : Nat} {sp : Sp} (F : Fun K x qual st f fd) (S : FnScope N ps (defScope st)) (len : ∀ vs H Q E, sp vs H Q E → vs.length = ps.length)
    (hbody : ∀ (cdv : Value) (A : Around) (outer : List Env) (s : Shared) (H : Hp) (vs : List V) (Q : VK) (E : XK), Room k (A.deeper (envOfC qual (defScope st) s.heap.objs.size f cdv)) → A.guards = some [] → sp vs H Q E →
      ∃ t, PSs (cxOf (L2.CX P w) P w K mg base N qual (defScope st) f cdv A outer s H E) (defBody st) t ∧ t { nx := fun _ H' => Q .non H', rt := Q } (start N vs) H) : FnG P w K mg base (L2.CX P w) (k + 1) f fd ps sp := by
  obtain ⟨oc, od, kV, doc, pm, an, cdv, ct, osl, rfl, lk, hcd⟩ := F.ex
  refine ⟨len, fun A outer s H args us vs Q E hr hgd e0 hb r hsp => ?_⟩
  have stay := fun b o e => (e0.bs b o e).1
  have KX : K.In s.heap := e0.mod.kin.keeps stay
  refine codeAny_call_function hr.depth (KX _ _ lk) rfl S.co S.gen rfl (PySem.W.codeRec_of KX hcd) (hb _ _ _ _ ?_)
  refine wpAny_newFunctionEnv_cells S.kind (fun ⟨y, v⟩ hy => ?_) fun env he s1 x => ?_
  · rcases S.par y (List.of_mem_zip hy).1 with q | q
    · exact .inl q
    · exact .inr ⟨q, PySem.W.cellsFrom_some _ _ _ (.inl q)⟩
  subst he
  obtain ⟨t, ht, hq⟩ := hbody cdv A outer s H vs Q E (hr.deeper _) hgd hsp
  have I : Inv (cxOf (L2.CX P w) P w K mg base N qual (defScope st) f cdv A outer s H E) [] (start N vs) H s1 := inv_start S hr.hd e0 (len _ _ _ _ hsp) r x
  refine ⟨(e0.mod.nolimit.keeps stay).keeps x.toInCall.keep, codeAny_func ?_⟩
  refine wpAny_mono (ht.run [] s1 (start N vs) H _ I hq) (fun fl s' hs => ?_) fun e s' hs => hs
  have fin : ∀ {σ' : L2.St} {H' : Hp} {v : V} {u : Value}, Inv (cxOf (L2.CX P w) P w K mg base N qual (defScope st) f cdv A outer s H E) [] σ' H' s' → RelV v u → Q v H' → CE outer P w H s Q u s' :=
    fun {σ' H' v u} J rv q => ⟨v, H', J.os, J.bare, J.base, J.hok, rv, q⟩
  cases fl with
  | ret u =>
    obtain ⟨v, σ', H', J, rv, q⟩ := hs
    exact fin J rv q
  | next =>
    obtain ⟨σ', H', J, q⟩ := hs
    exact fin (v := V.non) (u := Value.none) J rfl q
  | brk => exact (hs.elim fun _ h => h.elim fun _ h => h.2).elim
  | cont => exact (hs.elim fun _ h => h.elim fun _ h => h.2).elim
end Nd
end

section
set_option Elab.async false
set_option linter.all false
set_option maxRecDepth 100000
set_option maxHeartbeats 4000000
/-! NdX: errors of own classes as values; classes whose __init__ says super().__init__(x) and self.f = x. -/
namespace Nd
open PySem PySem.Spec PySem.W PySem.Calls


/-! ### an own class called: the made object, then the own __init__. Asked of the class: it is over B, whose __new__ it has, and over neither AttributeError nor NameError -/
section
variable {prog : Program} {w : World} {A : Around} {R : Result → Shared → Prop} {h : Heap} {g : Array GenState} {d : Drawn} {t : Nat} {os : OsState}
variable {nm q : Str} {C N : Addr} {bs bm bmB : List Value} {hdct : Bool} {sn : List Str} {sub : List Value} {ab : Bool} {col : Option Bool} {dd : Option Addr} {k0 k1 k2 k3 k5 : Option Value} {B newId initId : String}
structure Over (B : String) (bm : List Value) : Prop where
  has : bm.contains (.type B) = true
  noA : bm.contains (.type "AttributeError") = false
  noN : bm.contains (.type "NameError") = false
theorem Over.hasC (O : Over B bm) : (Value.ref C :: bm).contains (.type B) = true := by rw [List.contains_cons, O.has, Bool.or_true]
theorem Over.noAC (O : Over B bm) : (Value.ref C :: bm).contains (.type "AttributeError") = false := by rw [List.contains_cons, O.noA]; rfl
theorem Over.noNC (O : Over B bm) : (Value.ref C :: bm).contains (.type "NameError") = false := by rw [List.contains_cons, O.noN]; rfl
theorem new_checked (F : ExcBaseFacts B newId initId bmB) (O : Over B bm) {M : Model} {E : Value → Shared → Prop} {rest : List Value} {Q : Unit → Shared → Prop}
    (hC : h.get? C = some (excClassObj nm q C N bs bm hdct sn sub ab col dd k0 k1 k2 k3 k5 newId)) (hq : Q () ⟨h, g, d, t, os⟩) : wpAny M A (checkBuiltinCall newId ⟨.ref C :: rest, []⟩) Q E ⟨h, g, d, t, os⟩ := by
  have c1 := O.hasC (C := C)
  have c2 := F.noStar
  simp only [checkBuiltinCall, F.newKind, F.newSplit, F.newRow]
  repeat (first | refine wpAny_loadPart_at hC ?_ | (refine wpAny_isSubtype_exc hC ?_; rw [c1]) | refine wpAny_staticBase_exc hC ?_ | refine wpAny_madeBy_exc hC ?_ | simp only [bne_self_eq_false, Bool.false_eq_true, if_false] | wp_step)
  exact hq
theorem new_made (F : ExcBaseFacts B newId initId bmB) (O : Over B bm) {rest : List Value} (hC : h.get? C = some (excClassObj nm q C N bs bm hdct sn sub ab col dd k0 k1 k2 k3 k5 newId)) (hrest : rest.length ≤ sizeLine)
    (hq : R (.ok (.ret (.ref (h.objs.size + 1)))) ⟨(h.push (kdv_tup rest)).push (HandSPX.excO C h.objs.size), g, d, t, os⟩) : codeAny (model prog w) A (.builtin newId ⟨.ref C :: rest, []⟩) R ⟨h, g, d, t, os⟩ := by
  have c0 := F.ends
  have c1 := O.hasC (C := C)
  have c2 := O.noAC (C := C)
  have c3 := O.noNC (C := C)
  refine codeAny_builtinAt F.entry ?_
  unfold Builtin.«BaseException.__new__»
  refine wpAt_bind ?_
  show wpAt _ _ _ (stack >>= _) _ _ _
  refine wpAt_bind (wpAt_stack fun p below => wpAt_of_wpAny ?_)
  wp_walk
  refine wpAt_of_wpAny ?_
  rw [F.owner]
  repeat (first | with_reducible refine wpAny_madeHere_exc F.canon hC ?_ | with_reducible refine wpAny_loadPart_at hC ?_ | (with_reducible refine wpAny_isSubtype_exc hC ?_; first | rw [c1] | rw [c2] | rw [c3]) | wp_step)
  show R _ _
  rw [Heap.size_push]
  exact hq
theorem type_called (F : ExcBaseFacts B newId initId bmB) (O : Over B bm) {E : Value → Shared → Prop} {Q : PySem.Fin → Shared → Prop} {rest : List Value} {fI : Addr} (hC : h.get? C = some (excClassObj nm q C N bs bm hdct sn sub ab col dd k0 k1 k2 k3 k5 newId))
    (hi : Looks (model prog w) h (typeLookup (.ref C) "__init__") (some (.ref fI))) (hb : ∀ self, Looks (model prog w) h (bindSpecial (.ref fI) self) (.ref fI, [self])) (hrest : rest.length ≤ sizeLine)
    (hq : codeAny (model prog w) A (.call (.ref fI) ⟨.ref (h.objs.size + 1) :: rest, []⟩) (fun r s' => match r with | .ok (.ret v) => v = .none ∧ Q (.done (.ret (.ref (h.objs.size + 1)))) s' | .ok _ => False | .error e => E e s')
      ⟨(h.push (kdv_tup rest)).push (HandSPX.excO C h.objs.size), g, d, t, os⟩) : wpAny (model prog w) A (Builtin.«type.__call__» ⟨.ref C :: rest, []⟩) Q E ⟨h, g, d, t, os⟩ := by
  repeat (first | with_reducible refine wpAny_loadPart_at hC ?_ | with_reducible refine wpAny_madeBy_exc hC ?_ | wp_step)
  refine codeAny_call_builtin_code (Code.quiet_builtin _ F.quiet) (new_checked F O hC ?_)
  refine new_made F O hC hrest ?_
  show wpAny _ _ _ _ _ _
  have k : ∀ b o, h.get? b = some o → ((h.push (kdv_tup rest)).push (HandSPX.excO C h.objs.size)).get? b = some o := fun b o e => Heap.get?_push_of_some _ (Heap.get?_push_of_some _ e)
  have hC₁ := k _ _ hC
  have hget : ((h.push (kdv_tup rest)).push (HandSPX.excO C h.objs.size)).get? (h.objs.size + 1) = some (HandSPX.excO C h.objs.size) := by heap_get
  have hcC : (Value.ref C :: bm).contains (.ref C) = true := by simp
  have i1 := hi.keeps k
  have b1 := (hb (.ref (h.objs.size + 1))).keeps k
  unfold isInstance
  repeat (first | with_reducible refine wpAny_loadPart_at hget ?_ | (with_reducible refine wpAny_isSubtype_exc hC₁ ?_; rw [hcC]) | wp_step)
  show wpAny _ _ (typeLookup (.ref C) _) _ _ _
  refine i1.at ?_
  refine wpAny_holding (wpAny_bind (b1.at ?_))
  refine wpAny_bind (wpAny_call (codeAny_mono hq fun r s' z => ?_))
  rcases r with e | (v | _ | _ | _) <;> first | exact z | exact z.elim | skip
  obtain ⟨rfl, z⟩ := z
  first
    | exact wpAny_pure (wpAny_pure z)
    | (wp_walk; exact z)
theorem call_made (F : ExcBaseFacts B newId initId bmB) (O : Over B bm) {rest : List Value} {fI : Addr} (hC : h.get? C = some (excClassObj nm q C N bs bm hdct sn sub ab col dd k0 k1 k2 k3 k5 newId))
    (hi : Looks (model prog w) h (typeLookup (.ref C) "__init__") (some (.ref fI))) (hb : ∀ self, Looks (model prog w) h (bindSpecial (.ref fI) self) (.ref fI, [self])) (hrest : rest.length ≤ sizeLine)
    (hq : codeAny (model prog w) (A.under (.builtin "type.__call__" ⟨.ref C :: rest, []⟩)) (.call (.ref fI) ⟨.ref (h.objs.size + 1) :: rest, []⟩) (InitBack (h.objs.size + 1) R)
      ⟨(h.push (kdv_tup rest)).push (HandSPX.excO C h.objs.size), g, d, t, os⟩) : codeAny (model prog w) A (.call (.ref C) ⟨rest, []⟩) R ⟨h, g, d, t, os⟩ := by
  have f1 := tc_lookup
  have f2 := tc_bind (.ref C)
  have hTy : (⟨h, g, d, t, os⟩ : Shared).TypeIs (.ref C) "type" := ⟨_, hC, rfl⟩
  refine codeAny_of_tree ?_
  show wpAny _ _ (callAny (.ref C) _) _ _ _
  repeat (any_goals (first | assumption | with_reducible refine wpAny_loadPart_at hC ?_ | wp_step))
  refine ⟨rfl, ?_⟩
  refine codeAny_call_builtin_at (Code.quiet_builtin _ (by decide +kernel)) entry_typeCall (wpAny_check_type_call_sub hC (type_called F O hC hi hb hrest ?_))
  refine codeAny_mono hq fun r s' z => ?_
  rcases r with e | (v | _ | _ | _) <;> exact z
end

/-! ### __init__(self, x): super().__init__(x); self.f = x -/
structure InitFacts (cls i : String) : Prop where
  kind : builtinKind i = some .slot
  row : Manifest.signature? i = some ⟨.positional, "*", cls, .self, [⟨"args", .varPos, false⟩]⟩
  star : (cls != "*") = true
  plain : plainId i = true
  entry : entryFor table i = some Builtin.«BaseException.__init__»
theorem InitFacts.of {cls n i : String} (F : ExcCallFacts cls n i) : InitFacts cls i := ⟨F.initKind, F.initRow, F.noStar, F.init.plain, F.initEntry⟩
theorem InitFacts.of2 {cls n i : String} (F : PyProof.Rows.ExcClass cls n i) : InitFacts cls i := ⟨F.initKind, F.initSig, F.notStar, F.init.plain, F.initEntry⟩
/-- a built-in base B, whose __new__ is Bn's -/
structure ExcB (B Bn newId inN i : String) (bmN bmB : List Value) : Prop where
  new : ExcBaseFacts Bn newId inN bmN
  over : Over Bn bmB
  ini : InitFacts B i
  kxs : KxsFacts B i
  st : StoreFacts B bmB "object.__setattr__" "object"
theorem store_KeyError : StoreFacts "KeyError" [.type "KeyError", .type "LookupError", .type "Exception", .type "BaseException", .type "object"] "object.__setattr__" "object" where
  mro := by kernel_rfl
  slot := .of (owner := "object") (n := "__setattr__") (by rw [typeLookup_type, builtinLookup_eq_fast]; kernel_rfl) (by decide +kernel) (by decide +kernel) (by decide +kernel)
    (by first | exact .inl (by decide +kernel) | exact .inr (by decide +kernel)) (by rw [isSubtype_type]; kernel_rfl)
  entry := F.entry_object_sa
  kind := by decide +kernel
  split := by decide +kernel
  hasOwner := by decide +kernel
  args := fun a b c => by unfold argsOk; kernel_rfl
  passes := fun self => by kernel_rfl
theorem kxs_KeyError : KxsFacts "KeyError" "KeyError.__init__" := ⟨by show builtinType _ = _; rw [builtinType_eq_fast]; kernel_rfl, by first | kernel_rfl | rfl⟩
theorem excB_IndexError : ExcB "IndexError" "IndexError" "IndexError.__new__" "IndexError.__init__" "IndexError.__init__" [.type "IndexError", .type "LookupError", .type "Exception", .type "BaseException", .type "object"] [.type "IndexError", .type "LookupError", .type "Exception", .type "BaseException", .type "object"] :=
  ⟨F.excBase_IndexError, ⟨by decide +kernel, by decide +kernel, by decide +kernel⟩, .of F.excBase_IndexError.toExcCallFacts, kxs_IndexError, F.store_IndexError⟩
theorem excB_OverflowError : ExcB "OverflowError" "OverflowError" "OverflowError.__new__" "OverflowError.__init__" "OverflowError.__init__" [.type "OverflowError", .type "ArithmeticError", .type "Exception", .type "BaseException", .type "object"] [.type "OverflowError", .type "ArithmeticError", .type "Exception", .type "BaseException", .type "object"] :=
  ⟨F.excBase_OverflowError, ⟨by decide +kernel, by decide +kernel, by decide +kernel⟩, .of F.excBase_OverflowError.toExcCallFacts, kxs_OverflowError, F.store_OverflowError⟩
theorem excB_LookupError : ExcB "LookupError" "LookupError" "LookupError.__new__" "LookupError.__init__" "LookupError.__init__" [.type "LookupError", .type "Exception", .type "BaseException", .type "object"] [.type "LookupError", .type "Exception", .type "BaseException", .type "object"] :=
  ⟨F.excBase_LookupError, ⟨by decide +kernel, by decide +kernel, by decide +kernel⟩, .of F.excBase_LookupError.toExcCallFacts, kxs_LookupError, F.store_LookupError⟩
theorem excB_KeyError : ExcB "KeyError" "LookupError" "LookupError.__new__" "LookupError.__init__" "KeyError.__init__" [.type "LookupError", .type "Exception", .type "BaseException", .type "object"] [.type "KeyError", .type "LookupError", .type "Exception", .type "BaseException", .type "object"] :=
  ⟨F.excBase_LookupError, ⟨by decide +kernel, by decide +kernel, by decide +kernel⟩, .of2 PyProof.Rows.excClass_KeyError, kxs_KeyError, store_KeyError⟩

section
variable {prog : Program} {w : World} {A : Around} {K : Frag} {C fI cc cda L e t0 : Addr} {hp : Heap} {g : Array GenState} {d : Drawn} {t : Nat} {os : OsState} {E : Value → Shared → Prop}
variable {B Bn newId inN i : String} {bmN bmB : List Value} {nm qual x f : Str} {params : Arguments} {body : List PySem.Stmt} {scope : Scope} {dV kV doc pm ct oc ccl cl : Value} {an od cdd cld : Option Addr} {osl ccs csl : Array (Option Value)} {vs : Array Value} {file : Str} {tf : Tok}
variable {p0 p1 p2 p3 p4 p5 p6 p7 p8 p9 : Pos} {u : Value} {mg mb : Str → Option Value}
/-- what the scope of such an __init__ tells -/
structure InitScope (x : Str) (scope : Scope) : Prop where
  kind : scope.kind = .function
  gen : scope.isGenerator = false
  co : scope.isCoroutine = false
  sup : scope.names.lookup ("super" : Str) = some .globalImplicit
  cls : scope.names.lookup ("__class__" : Str) = some .free
  slf : scope.names.lookup ("self" : Str) = some .local
  arg : scope.names.lookup x = some .local
  nocell : ∀ y ∈ scope.names, y.2 ≠ .cell
  dbg : (x == ("__debug__" : Str)) = false
/-- what the written part says of the class and of its __init__ -/
structure InitOk (prog : Program) (K : Frag) (C fI cc cda : Addr) (B i newId : String) (bmB : List Value) (f : Str) : Prop where
  q : excInitIn K C bmB newId = true
  has : hasDictIn K C = true
  sa : findIn K (.ref C) "__setattr__" = some (some (.builtin "object.__setattr__"))
  ov : excOver K C bmB = true
  tk : takerIn K C f = some none
  sub : subIn K (.ref C) (.type B) = some true
  self : mroIn K C (.ref C) = some true
  sup : ks_superIn K C C "__init__" = some (some (.builtin i))
  tp : nsIn K cStatics "thirdparty.any" = some none
  cell : ∃ cl cld csl, K.lookup cc = some ⟨cl, cld, .cell (some (.ref C)), csl⟩
  code : ∃ ccl cdd vs ccs file tf, K.lookup cda = some ⟨ccl, cdd, .fields vs, ccs⟩ ∧ vs[2]? = some (.str file tf) ∧ ((prog.main.file : Str) == file) = true
  top : (prog.main.scope.names.lookup ("super" : Str)).isSome = false
theorem bound_checked {M : Model} {cls : String} (F : InitFacts cls i) {nm q : Str} {C N e : Addr} {oe : Obj} {bs bm : List Value} {hdct : Bool} {sn : List Str} {sub : List Value} {ab : Bool} {col : Option Bool} {dd : Option Addr} {k0 k1 k2 k3 k5 : Option Value} {rest : List Value} {Q : Unit → Shared → Prop}
    (hC : hp.get? C = some (excClassObj nm q C N bs bm hdct sn sub ab col dd k0 k1 k2 k3 k5 newId)) (he : hp.get? e = some oe) (hcls : oe.cls = .ref C) (hq : Q () ⟨hp, g, d, t, os⟩) : wpAny M A (checkBoundCall i ⟨.ref e :: rest, []⟩) Q E ⟨hp, g, d, t, os⟩ := by
  have c0 := F.star
  simp only [checkBoundCall, F.kind, F.row]
  repeat (first | (with_reducible refine wpAny_loadPart_at he ?_; rw [hcls]) | with_reducible refine wpAny_loadPart_at hC ?_ | wp_step)
  refine wpAny_onRaise ?_
  rw [show ∀ (a b : String) (n : Nat), Bind.check ⟨.positional, "*", cls, .self, [⟨"args", .varPos, false⟩]⟩ a b n (List.map (fun x => x.fst) ({ pos := Value.ref e :: rest } : Args).kw) = pure () from fun a b n => check_star_args _ _ _ _ _ _]
  exact wpAny_pure hq
abbrev iFd (nm qual : Str) (params : Arguments) (body : List PySem.Stmt) (scope : Scope) (dV kV doc pm : Value) (an : Option Addr) (cda : Addr) (ct : Value) (cc : Addr) : FuncData := ksFn nm qual params body scope dV kV doc pm an (.ref cda) ct cc
/-- how the line super().__init__(x) is read -/
def SupEv (x : Str) (p0 p1 p2 p3 p4 : Pos) : Prop := ∃ pl : PySem.Env → Sem Bool, ∀ env : PySem.Env, eval (.Call (.Attribute (.Call (.Name "super" p0) [] [] p1) "__init__" p2) [.Name x p3] [] p4) env = (do
  let ov ← attributeBase (.Call (.Name "super" p0) [] [] p1) "__init__" env (eval (.Call (.Name "super" p0) [] [] p1) env)
  standAt p2.atName
  let (f, first) ← holding [ov] (getMethod ov "__init__" (pl env))
  callWith p4 f first (backTo p4 (starEach [.Name x p3] env)) [])
/-- super().__init__(x) -/
theorem super_line {m : Str → Option Value} (hev : SupEv x p0 p1 p2 p3 p4) (XB : ExcB B Bn newId inN i bmN bmB) (O : InitOk prog K C fI cc cda B i newId bmB f) (S : InitScope x scope) {ar : Arg} (har : (params.posonlyargs ++ params.args).head? = some ar) (hself : ar.arg = ("self" : Str))
    (lk : K.lookup fI = some ⟨oc, od, .func (iFd nm qual params body scope dV kV doc pm an cda ct cc), osl⟩) (X : K.In hp) (hns : hp.Ns mainGlobals mg) (hmg : mg "super" = none) (hb : hp.Ns builtinsNs mb) (hmb : ∀ x : Str, x ≠ "__name__" → mb x = bootBuiltins x)
    (hL : hp.Ns L m) (mx : m x = some u) (ms : m ("self" : Str) = some (.ref e)) (he : hp.get? e = some (HandSPX.excO C t0)) {Q : Value → Shared → Prop}
    (hq : ∀ h' t' t1, (∀ b o, b ≠ e → hp.get? b = some o → h'.get? b = some o) → h'.get? e = some (HandSPX.excO C t1) → Q .none ⟨h', g, d, t', os⟩) :
    PySem.wpAt (model prog w) A (.func body (callEnv (iFd nm qual params body scope dV kV doc pm an cda ct cc) L fI)) (eval (.Call (.Attribute (.Call (.Name "super" p0) [] [] p1) "__init__" p2) [.Name x p3] [] p4) (callEnv (iFd nm qual params body scope dV kV doc pm an cda ct cc) L fI)) Q E ⟨hp, g, d, t, os⟩ := by
  obtain ⟨cl, cld, csl, hcell⟩ := O.cell
  obtain ⟨ccl, cdd, vs, ccs, file, tf, hcode, hvs, hfile⟩ := O.code
  obtain ⟨nm', N', qn, bs, bm, hdct, sn, sub, ab, col, dd, k0, k1, k2, k3', k5, hC, hT⟩ := excInit_of X O.q
  generalize henv : callEnv (iFd nm qual params body scope dV kV doc pm an cda ct cc) L fI = env
  have ekind : env.scope.kind = .function := by rw [← henv]; exact S.kind
  have eloc : env.locals = L := by rw [← henv]; rfl
  have esup : env.kindOf "super" = some .globalImplicit := by rw [← henv]; exact S.sup
  have ecls : env.kindOf "__class__" = some .free := by rw [← henv]; exact S.cls
  have eself : env.kindOf "self" = some .local := by rw [← henv]; exact S.slf
  have earg : env.kindOf x = some .local := by rw [← henv]; exact S.arg
  have eglob : env.globals = mainGlobals := by rw [← henv]; rfl
  have eblt : env.builtins = builtinsNs := by rw [← henv]; rfl
  have ecell : env.cells.lookup ("__class__" : Str) = some cc := by rw [← henv]; rfl
  have efun : env.func = some fI := by rw [← henv]; rfl
  have ecode : env.code = .ref cda := by rw [← henv]; rfl
  obtain ⟨pl, hev⟩ := hev
  refine ks_wpAt_MethodCall (pl := pl env) ?_ (hev env)
  refine ks_wpAt_super_base (env := env) esup ecls (by decide) efun (X _ _ lk) rfl har ecode (X _ _ hcode) rfl hvs hfile O.top ?_
  refine ks_loadName_global ekind esup (loadGlobal_builtin (by rw [eglob]; exact hns) hmg (by rw [eblt]; exact hb) ((hmb _ (by decide +kernel)).trans (show bootBuiltins "super" = some (.type "super") by decide +kernel)) ⟨rfl, ?_⟩)
  refine wpAny_loadName_free ekind ecls ecell ⟨_, X _ _ hcell, rfl⟩ ?_
  rw [hself]
  refine wpAny_loadName_local ekind eself (by rw [eloc]; exact hL) ms ?_
  refine ks_wpAny_isType_cls hC rfl ⟨rfl, ?_⟩
  refine ks_wpAny_call_super hC rfl he rfl (fun c z => nomatch z) (looks_mroIn X O.self) fun h3 e3 k3 => ?_
  have X3 : K.In h3 := X.keeps k3
  have he3 := k3 _ _ he
  have I3 : InstAt h3 e (HandSPX.excO C t0) C none := ⟨he3, rfl, rfl, trivial⟩
  have hI : Looks (model prog w) h3 (isInstance (.ref e) (.type B)) true := I3.type.andThen (looks_subIn X3 O.sub)
  cases hcl : clsIn K C with
  | none =>
    have z := O.sup
    unfold ks_superIn at z
    rw [hcl] at z
    cases z
  | some cd =>
    have hm := O.sup
    unfold ks_superIn at hm
    rw [hcl] at hm
    refine kxs_getMethod XB.kxs e3 (looks_opaque X3 O.tp) (l₀ := cd.mro) (fun A Q E s k q => wpAny_bind ((looks_clsIn X3 hcl) A _ E s k (wpAny_pure q))) rfl X3 hm hI (ks_ne X3 I3 hcl) (by decide) ?_
    have X4 : K.In (h3.push (kxs_mw i e)) := X3.keeps fun b o q => Heap.get?_push_of_some _ q
    have hu : (h3.push (kxs_mw i e)).get? h3.objs.size = some (kxs_mw i e) := Heap.get?_push_size _ rfl
    have he4 : (h3.push (kxs_mw i e)).get? e = some (HandSPX.excO C t0) := Heap.get?_push_of_some _ he3
    have hL4 : (h3.push (kxs_mw i e)).Ns L m := (hL.keeps k3).keeps fun b o q => Heap.get?_push_of_some _ q
    show wpAny _ _ (callWith p4 (.ref h3.objs.size) [] (backTo p4 (starEach [.Name x p3] env)) []) _ _ _
    refine kxs_callWith (i := i) (x := e) rfl ?_
    refine evalArgs_plain (Calls.spliced_cons ?_)
    refine wpAny_Name (wpAny_loadName_local ekind earg (by rw [eloc]; exact hL4) mx ?_) S.dbg
    refine Calls.spliced_nil ⟨hu, ?_⟩
    show wpAny _ _ (call (.ref h3.objs.size) [u] []) _ _ _
    refine wpAny_call (codeAny_of_tree ?_)
    show wpAny _ A.in1 (callAny (.ref h3.objs.size) ⟨[u], []⟩) _ _ _
    simp only [callAny]
    refine wpAny_bind (wpAny_load hu ?_)
    simp only [kxs_mw, show (Value.type "method-wrapper" == Value.type "method" || Value.type "method-wrapper" == Value.type "builtin_function_or_method" || Value.type "method-wrapper" == Value.type "method-wrapper") = true by decide, if_true]
    refine KFB.if_so (by decide) ?_
    have hC4 : (h3.push (kxs_mw i e)).get? C = some (excClassObj nm' qn C N' bs bm hdct sn sub ab col dd k0 k1 k2 k3' k5 newId) := Heap.get?_push_of_some _ (k3 _ _ hC)
    refine wpAny_bind (bound_checked XB.ini hC4 he4 rfl ?_)
    refine wpAny_bind (wpAny_pure (wpAny_pure ?_))
    refine ⟨plainId_quiet XB.ini.plain _, codeAny_builtin XB.ini.entry ?_⟩
    refine exc_init_tree (cls := .ref C) (t0 := t0) (dv := none) (c2 := .none) (c3 := .none) (b4 := .bool false) he4 (show 1 ≤ sizeLine by rw [sizeLine_eq]; decide) fun h' k' e' _ => ?_
    exact hq h' _ _ (fun b o hb ho => k' b o hb (Heap.get?_push_of_some _ (k3 _ _ ho))) e'
/-- the made error with its attribute -/
abbrev excD (C t0 dx : Addr) : Obj := { cls := .ref C, dict := some dx, data := .fields #[.ref t0, .none, .none, .none, .bool false, .none] }
open PySem.Builtin PySem.Builtin.ObjectAttr in
theorem store_field (XB : ExcB B Bn newId inN i bmN bmB) (O : InitOk prog K C fI cc cda B i newId bmB f) (X : K.In hp) (hx : hp.get? e = some (HandSPX.excO C t0)) {Q : Unit → Shared → Prop}
    (hq : ∀ h' tk' dx, (∀ b o, b ≠ e → hp.get? b = some o → h'.get? b = some o) → hp.objs.size ≤ dx → dx ≠ e → h'.get? e = some (excD C t0 dx) → h'.Ns1 dx (fun y => if y = f then some u else none) → Q () ⟨h', g, d, tk', os⟩) :
    wpAny (model prog w) A (setAttr (.ref e) f u) Q E ⟨hp, g, d, t, os⟩ := by
  have I : InstAt hp e (HandSPX.excO C t0) C none := ⟨hx, rfl, rfl, trivial⟩
  refine set_plain X I O.sa (osa_openX (s := ⟨hp, g, d, t + 1, os⟩) XB.st X I O.ov O.tk fun b => ?_)
  show wpAny _ _ (storeInOwnDict (.ref e) (.ref C) (.str f t) f u b) _ _ _
  obtain ⟨cd, hc, hh⟩ := any_some O.has
  have hcls : Looks (model prog w) hp (classData C) cd := looks_clsIn X hc
  obtain ⟨nm, bs, mro, ns, qn, hd, sn, sb, ab, col, del⟩ := cd
  dsimp only at hh
  subst hh
  have hxs : e ≠ hp.objs.size := Nat.ne_of_lt (Heap.lt_size hx)
  unfold storeInOwnDict ownDictForStores
  repeat (first | with_reducible refine HandSPX.store_in_new ?_ ?_ | with_reducible refine wpAny_loadPart_at hx ?_ | with_reducible refine hcls.at ?_ | wp_step)
  · exact ⟨_, #[], _, (Heap.get?_update_ne _ _ _ _ hxs.symm).trans (Heap.get?_push_at rfl rfl), rfl, fun e he => absurd he (by simp), fun _ => rfl⟩
  · intro h' tk' hn' hs
    have hx₁ : (hp.push { cls := .type "dict", data := .dict #[] }).get? e = some (HandSPX.excO C t0) := Heap.get?_push_of_some _ hx
    refine hq h' tk' hp.objs.size (fun b o hb ho => ?_) (Nat.le_refl _) hxs.symm ?_ hn'
    · exact (hs.2 b (Nat.ne_of_lt (Heap.lt_size ho))).trans ((Heap.get?_update_ne _ _ _ _ hb).trans (Heap.get?_push_of_some _ ho))
    · exact (hs.2 e hxs).trans (Heap.get?_update_self _ hx₁ rfl)
abbrev iBody (x f : Str) (p0 p1 p2 p3 p4 p5 p6 p7 p8 p9 : Pos) : List PySem.Stmt := [.Expr (.Call (.Attribute (.Call (.Name "super" p0) [] [] p1) "__init__" p2) [.Name x p3] [] p4) p5, .Assign [.Attribute (.Name "self" p6) f p7] (.Name x p8) p9]
/-- C(u): the error with u under f -/
theorem exc_made (XB : ExcB B Bn newId inN i bmN bmB) (O : InitOk prog K C fI cc cda B i newId bmB f) (S : InitScope x scope) {ar : Arg} (har : (params.posonlyargs ++ params.args).head? = some ar) (hself : ar.arg = ("self" : Str)) (hev : SupEv x p0 p1 p2 p3 p4) (hne : (("self" : Str) == x) = false)
    (lk : K.lookup fI = some ⟨oc, od, .func (iFd nm qual params (iBody x f p0 p1 p2 p3 p4 p5 p6 p7 p8 p9) scope dV kV doc pm an cda ct cc), osl⟩) (hcd : codeIn K (.ref cda) qual = true)
    (iC : findIn K (.ref C) "__init__" = some (some (.ref fI))) (tI : typeIn K (.ref fI) = some (.type "function"))
    (hbind : ∀ (s : Shared) (a b : Value), BindsTo s (iFd nm qual params (iBody x f p0 p1 p2 p3 p4 p5 p6 p7 p8 p9) scope dV kV doc pm an cda ct cc) ⟨[a, b], []⟩ [(("self" : Str), a), (x, b)])
    (X : K.In hp) (hns : hp.Ns mainGlobals mg) (hmg : mg "super" = none) (hb : hp.Ns builtinsNs mb) (hmb : ∀ x : Str, x ≠ "__name__" → mb x = bootBuiltins x) (hlim : hp.NoLimit) (hroom : A.depth + 1 < recursionLimit) {Q : Value → Shared → Prop}
    (hq : ∀ h' tk' e t1 dx, (∀ b o, hp.get? b = some o → h'.get? b = some o) → hp.objs.size ≤ e → hp.objs.size ≤ dx → dx ≠ e → h'.get? e = some (excD C t1 dx) → h'.Ns1 dx (fun y => if y = f then some u else none) → Q (.ref e) ⟨h', g, d, tk', os⟩) :
    wpAny (model prog w) A (call (.ref C) [u]) Q E ⟨hp, g, d, t, os⟩ := by
  obtain ⟨nm', N', qn, bs, bm, hdct, sn, sub, ab, col, dd, k0, k1, k2, k3', k5, hC, hT⟩ := excInit_of X O.q
  have O' : Over Bn bm := ⟨by rw [hT]; exact XB.over.has, by rw [hT]; exact XB.over.noA, by rw [hT]; exact XB.over.noN⟩
  refine wpAny_call (call_made XB.new O' hC (looks_findIn X iC) (fun self => bind_fn X self tI) (show 1 ≤ sizeLine by rw [sizeLine_eq]; decide) ?_)
  have kk : ∀ b o, hp.get? b = some o → ((hp.push (kdv_tup [u])).push (HandSPX.excO C hp.objs.size)).get? b = some o := fun b o e => Heap.get?_push_of_some _ (Heap.get?_push_of_some _ e)
  have hget : ((hp.push (kdv_tup [u])).push (HandSPX.excO C hp.objs.size)).get? (hp.objs.size + 1) = some (HandSPX.excO C hp.objs.size) := by heap_get
  refine ks_codeAny_call_defAt (fd := iFd nm qual params (iBody x f p0 p1 p2 p3 p4 p5 p6 p7 p8 p9) scope dV kV doc pm an cda ct cc) (body := iBody x f p0 p1 p2 p3 p4 p5 p6 p7 p8 p9) (binds := [(("self" : Str), Value.ref (hp.objs.size + 1)), (x, u)]) (by rw [L2.make_depth]; exact hroom) ((X.keeps kk) _ _ lk) rfl (hlim.keeps kk) (codeRec_of (X.keeps kk) hcd) rfl (hbind _ _ _) S.nocell ?_ (fun h2 hns2 k2 => ?_) S.co S.gen S.kind
  · intro y hy
    rcases List.mem_cons.mp hy with rfl | hy
    · exact S.slf
    · rw [List.mem_singleton.mp hy]
      exact S.arg
  have k3 := fun b o e => k2 b o (kk b o e)
  have X2 : K.In h2 := X.keeps k3
  have mx : ([(("self" : Str), Value.ref (hp.objs.size + 1)), (x, u)].reverse.lookup x) = some u := by simp [List.lookup]
  have ms : ([(("self" : Str), Value.ref (hp.objs.size + 1)), (x, u)].reverse.lookup ("self" : Str)) = some (.ref (hp.objs.size + 1)) := by simp [List.lookup, hne]
  generalize hm : (fun y => [(("self" : Str), Value.ref (hp.objs.size + 1)), (x, u)].reverse.lookup y) = m at hns2
  have mx' : m x = some u := by rw [← hm]; exact mx
  have ms' : m ("self" : Str) = some (.ref (hp.objs.size + 1)) := by rw [← hm]; exact ms
  refine ks_wpAt_execs_cons (ks_wpAt_Expr_any (super_line (m := m) hev XB O S har hself lk X2 (hns.keeps k3) hmg (hb.keeps k3) hmb hns2 mx' ms' (k2 _ _ hget) fun h4 t4 t1 k4 he4 => ?_) ?_ ?_)
  · have hLe : ((hp.push (kdv_tup [u])).push (HandSPX.excO C hp.objs.size)).objs.size ≠ hp.objs.size + 1 := by
      rw [Heap.size_push, Heap.size_push]
      omega
    have hL4 : h4.Ns ((hp.push (kdv_tup [u])).push (HandSPX.excO C hp.objs.size)).objs.size m := by
      obtain ⟨o, es, ep, ho, r⟩ := hns2
      exact ⟨o, es, ep, k4 _ _ hLe ho, r⟩
    have k04 : ∀ b o, hp.get? b = some o → h4.get? b = some o := fun b o q => k4 b o (Nat.ne_of_lt (Nat.lt_succ_of_lt (Heap.lt_size q))) (k3 b o q)
    show PySem.wpAt _ _ _ (execs [.Assign [.Attribute (.Name "self" p6) f p7] (.Name x p8) p9] _) _ _ _
    refine ks_wpAt_execs_cons (ks_wpAt_Assign_Attr (PySem.wpAt_of_wpAny ?_) rfl)
    refine wpAny_Name (wpAny_loadName_local S.kind S.arg hL4 mx' ?_) S.dbg
    refine wpAny_Name (wpAny_loadName_local S.kind S.slf hL4 ms' ?_) (by decide)
    refine store_field XB O (X.keeps k04) he4 fun h5 tk5 dx k5' hdx hdne e5 n5 => ?_
    show PySem.wpAt _ _ _ (execs [] _) _ _ _
    refine PySem.wpAt_of_wpAny (wpAny_execs_nil ?_)
    have sz : hp.objs.size ≤ h4.objs.size := Nat.le_of_lt (Nat.lt_of_succ_lt (Heap.lt_size he4))
    exact ⟨rfl, hq h5 tk5 _ _ dx (fun b o q => k5' b o (Nat.ne_of_lt (Nat.lt_succ_of_lt (Heap.lt_size q))) (k04 b o q)) (Nat.le_succ _) (Nat.le_trans sz hdx) hdne e5 n5⟩
  · show (scope.kind == .module && _) = false
    rw [S.kind]
    rfl
  · rfl
end
end Nd
end

section
set_option Elab.async false
set_option linter.all false
set_option maxRecDepth 100000
set_option maxHeartbeats 2000000
/-! NdY: own errors as values, in the layer's words. -/
namespace Nd
open PySem PySem.Spec PyProof.Rows L2
/-- an error's object, not raised: its class, its dict -/
def ExOd (cls : Value) (d : Option Addr) (a : Addr) : HO := .ext fun h => ∃ (oe : Obj) (vs : Array Value), h.get? a = some oe ∧ Zc cls d oe ∧ oe.data = .fields vs ∧ vs[1]? = some .none ∧ vs[2]? = some .none ∧ 4 < vs.size
theorem exOd_none {cls : Value} {a : Addr} : ExO cls a = ExOd cls none a := rfl
theorem exOd_ok {P : Program} {w : World} {H : Hp} {h : Heap} {a : Addr} {cls : Value} {d : Option Addr} {oe : Obj} {vs : Array Value} (e : h.get? a = some oe) (z : Zc cls d oe) (hd : oe.data = .fields vs) (h1 : vs[1]? = some .none) (h2 : vs[2]? = some .none) (h5 : 4 < vs.size) : ObjOk P w H h a (ExOd cls d a) :=
  ⟨⟨oe, vs, e, z, hd, h1, h2, h5⟩, ⟨oe, e⟩, fun _ _ ⟨o, v, q, r⟩ k => ⟨o, v, k o q, r⟩⟩
theorem exOd_at {P : Program} {w : World} {H : Hp} {h : Heap} {a : Addr} {cls : Value} {d : Option Addr} (hok : HOk P w H h) (e : H a = some (ExOd cls d a)) : ∃ (oe : Obj) (vs : Array Value), h.get? a = some oe ∧ Zc cls d oe ∧ oe.data = .fields vs := by
  have x : ObjOk P w H h a (.ext fun h => ∃ (oe : Obj) (vs : Array Value), h.get? a = some oe ∧ Zc cls d oe ∧ oe.data = .fields vs ∧ vs[1]? = some .none ∧ vs[2]? = some .none ∧ 4 < vs.size) := hok a _ e
  obtain ⟨⟨oe, vs, h1, h2, h3, _⟩, _⟩ := x
  exact ⟨oe, vs, h1, h2, h3⟩
/-- all that is asked of a class whose __init__ says super().__init__(x), self.f = x -/
structure ExcV (P : Program) (K : PySem.W.Frag) (C : Addr) (f : Str) : Prop where
  ex : ∃ (B Bn newId inN i : String) (bmN bmB : List Value) (fI cc cda : Addr) (nm qual x : Str) (params : Arguments) (scope : Scope) (dV kV doc pm ct : Value) (an od : Option Addr) (oc : Value) (osl : Array (Option Value)) (p0 p1 p2 p3 p4 p5 p6 p7 p8 p9 : Pos) (ar : Arg),
    ExcB B Bn newId inN i bmN bmB ∧ InitOk P K C fI cc cda B i newId bmB f ∧ InitScope x scope ∧ (params.posonlyargs ++ params.args).head? = some ar ∧ ar.arg = ("self" : Str) ∧ SupEv x p0 p1 p2 p3 p4 ∧ (("self" : Str) == x) = false ∧
    K.lookup fI = some ⟨oc, od, .func (iFd nm qual params (iBody x f p0 p1 p2 p3 p4 p5 p6 p7 p8 p9) scope dV kV doc pm an cda ct cc), osl⟩ ∧ PySem.W.codeIn K (.ref cda) qual = true ∧
    PySem.W.findIn K (.ref C) "__init__" = some (some (.ref fI)) ∧ PySem.W.typeIn K (.ref fI) = some (.type "function") ∧
    (∀ (s : Shared) (a b : Value), BindsTo s (iFd nm qual params (iBody x f p0 p1 p2 p3 p4 p5 p6 p7 p8 p9) scope dV kV doc pm an cda ct cc) ⟨[a, b], []⟩ [(("self" : Str), a), (x, b)])
section
variable {X : Cx} {C : Addr} {f x : Str} {e : PySem.Expr} {te : TE} {p pos : Pos}
theorem run_excV (EV : ExcV X.prog X.K C f) (hmg : X.mg "super" = none) (hroom : X.A.depth + 1 < recursionLimit) {pins : List (Addr × Obj)} {σ : L2.St} {H : Hp} {s : Shared} {Q : VK} {y : V} {u : Value} (I : Inv X pins σ H s) (ry : RelV y u)
    (h : ∀ a dx, H a = none → H dx = none → dx ≠ a → Q (.ref a) (upd (upd H dx (.xd [(f, y)])) a (ExOd (.ref C) (some dx) a))) : wpAny (model X.prog X.w) X.A (call (.ref C) [u]) (EP X pins σ Q) X.xe s := by
  obtain ⟨B, Bn, newId, inN, i, bmN, bmB, fI, cc, cda, nm, qual, x, params, scope, dV, kV, doc, pm, ct, an, od, oc, osl, p0, p1, p2, p3, p4, p5, p6, p7, p8, p9, ar, XB, O, S, har, hself, hev, hne, lk, hcd, iC, tI, hbind⟩ := EV.ex
  obtain ⟨mb, hb, hmb⟩ := I.ok.mod.blt
  have stay := fun b o e => (I.bs b o e).1
  obtain ⟨hp, g, d, t, os⟩ := s
  refine exc_made XB O S har hself hev hne lk hcd iC tI hbind I.kIn (I.ok.mod.glob.keeps stay) hmg (hb.keeps stay) hmb (I.ok.mod.nolimit.keeps stay) hroom fun h' tk' a t1 dx k ha hdx hda ea ed => ?_
  have na : H a = none := I.hok.fresh ha
  have nd : H dx = none := I.hok.fresh hdx
  have ne : ∀ {b : Addr} {o : Obj} {c : Addr}, hp.get? b = some o → hp.objs.size ≤ c → b ≠ c := fun {b o c} q hc => Nat.ne_of_lt (Nat.lt_of_lt_of_le (Heap.lt_size q) hc)
  have un : Un X.fs [] H (upd (upd H dx (.xd [(f, y)])) a (ExOd (.ref C) (some dx) a)) hp h' := {
    keep := fun b o q _ _ _ => k b o q
    slot := fun b o q _ _ _ => ⟨o.slots, k b o q⟩
    free := fun b o q n _ => by rw [upd_ne (ne q ha), upd_ne (ne q hdx)]; exact n
    there := fun b o q _ => ⟨o, k b o q⟩
    tups := fun b xs q => by rw [upd_ne (ne_of_none q na), upd_ne (ne_of_none q nd)]; exact q
    frzs := fun b o v q => by rw [upd_ne (ne_of_none q na), upd_ne (ne_of_none q nd)]; exact q
    tbls := fun b ps q => ⟨#[], by rw [upd_ne (ne_of_none q na), upd_ne (ne_of_none q nd), q]; simp⟩ }
  refine ⟨.ref a, _, I.un (t' := tk') un fun b o q => ?_, rfl, h a dx na nd hda⟩
  by_cases hb1 : b = a
  · subst hb1
    rw [upd_same] at q
    cases q
    exact exOd_ok ea ⟨rfl, rfl⟩ rfl rfl rfl (show 4 < 6 by decide)
  · rw [upd_ne hb1] at q
    by_cases hb2 : b = dx
    · subst hb2
      rw [upd_same] at q
      cases q
      exact ⟨_, ed, relO_put (fs := []) ry fun g => True.intro⟩
    · rw [upd_ne hb2] at q
      exact (I.hok b o q).stay (fun c v _ z => k c v z) (fun c z => by rw [upd_ne (ne_of_none z na), upd_ne (ne_of_none z nd)]; exact z) fun c xs z => by rw [upd_ne (ne_of_none z na), upd_ne (ne_of_none z nd)]; exact z
/-- C(e), C's __init__ storing e under f -/
theorem pe_excV (EV : ExcV X.prog X.K C f) (hmg : X.mg "super" = none) (hroom : X.A.depth + 1 < recursionLimit) (gC : X.mg x = some (.ref C)) (kC : PySem.W.keepIn X.K (.ref C) = true) (hg : Gl X x) (he : PE X e te)
    (hs : starEach [e] X.env = (false, eval e X.env) :: starEach [] X.env) (hdb : (x == ("__debug__" : Str)) = false) :
    PE X (.Call (.Name x p) [e] [] pos) (fun σ H Q => te σ H fun y H1 => ∀ a dx, H1 a = none → H1 dx = none → dx ≠ a → Q (.ref a) (upd (upd H1 dx (.xd [(f, y)])) a (ExOd (.ref C) (some dx) a))) := by
  refine ⟨fun pins s σ H Q I h => ?_⟩
  refine wpAny_Call_Name_kw (ld_glob I hg gC ?_ hdb)
  refine PySem.W.callWith_K (h₀ := X.base) I.ok.mod.kin kC ?_ hs (by rfl)
  rw [hs]
  show wpAny _ _ (spliced ((false, eval e X.env) :: backTo pos (starEach [] X.env))) _ _ s
  refine Calls.spliced_cons (thn (he.run pins s σ H _ I h) fun u s1 ⟨v, H1, I1, r1, q1⟩ => ?_)
  exact Calls.spliced_nil ⟨I1.kIn, run_excV EV hmg hroom I1 r1 q1⟩
/-- isinstance(e, c), e an error's object -/
theorem call_isX {a D : Addr} {d : Option Addr} (EC : ExcC X.K D) (hd : ∀ dx, d = some dx → True) : CallR X (.builtin "isinstance") (fun xs H Q => ∃ (c : V) (cv : Value) (b : Bool), xs = [.ref a, c] ∧ H a = some (ExOd (.ref D) d a) ∧ (∀ dx, d = some dx → ∃ fs, H dx = some (.xd fs)) ∧ (∀ u, RelV c u → u = cv) ∧ PySem.W.kitOne X.K (.ref D) cv = some b ∧ Q (.bl b) H) := by
  intro pins s σ H xs us Q I r h
  obtain ⟨c, cv, b, rfl, ha, hdx, hcv, e, q⟩ := h
  match r with
  | .cons rx (.cons rt .nil) =>
    cases rx
    have ec := hcv _ rt
    subst ec
    obtain ⟨oe, vs, ho, hz, hv⟩ := exOd_at I.hok ha
    have J : ∃ od, PySem.W.InstAt s.heap a oe D od := by
      obtain ⟨oc, od, oda, osl⟩ := oe
      obtain ⟨h1, h2⟩ := hz
      dsimp only at h1 h2 hv
      subst h1 h2 hv
      cases hdd : od with
      | none => subst hdd; exact ⟨none, ho, rfl, rfl, trivial⟩
      | some dx =>
        subst hdd
        obtain ⟨fs, hf⟩ := hdx dx rfl
        have x : ObjOk X.prog X.w H s.heap dx (.xd fs) := I.hok dx _ hf
        obtain ⟨mA, ⟨o, es, ep, e1, _⟩, _⟩ := x
        exact ⟨some o, ho, rfl, rfl, e1⟩
    obtain ⟨od, J⟩ := J
    have hcl : (PySem.W.clsIn X.K D).isSome = true := by
      obtain ⟨cd, hc, _⟩ := PySem.W.any_some EC.hd
      rw [hc]
      rfl
    exact PySem.W.kia_one (PySem.W.kitx_exc hcl EC.hg EC.hk EC.hs EC.ha EC.hn EC.ht EC.hm) I.kIn J e (fun z => nomatch z) fun tk => ⟨.bl b, H, I.kept (t' := tk) fun _ _ z => z, rfl, q⟩
/-- e.f of an error's object -/
theorem pe_xfv {n : Str} (he : PE X e te) (hb : attributeBase e n X.env (eval e X.env) = eval e X.env) :
    PE X (.Attribute e n pos) (fun σ H Q => te σ H fun y H1 => ∃ (C a dd : Addr) (fs : List (Str × V)) (v : V), PySem.W.findIn X.K (.ref C) n = some none ∧ XfC X.K C ∧ y = .ref a ∧ H1 a = some (ExOd (.ref C) (some dd) a) ∧ H1 dd = some (.xd fs) ∧ fs.lookup n = some v ∧ Q v H1) := by
  refine ⟨fun pins s σ H Q I h => ?_⟩
  refine attr_of hb (thn (he.run pins s σ H _ I h) fun u s1 ⟨y, H1, I1, ry, C, a, dd, fs, v, T, XF, ey, ea, ed, l, q⟩ => ?_)
  subst ey
  obtain rfl : u = Value.ref a := ry
  obtain ⟨oe, vs, ho, hz, hv⟩ := exOd_at I1.hok ea
  have hx : ObjOk X.prog X.w H1 s1.heap dd (.xd fs) := I1.hok dd _ ed
  obtain ⟨mA, hns, hr⟩ := hx
  obtain ⟨od, hod, hl⟩ := lookIn_ns hns
  obtain ⟨u, hu, ru⟩ := RelO.some_of (v := v) (o := mA n) (by rw [← l]; exact hr n)
  have J : PySem.W.InstAt s1.heap a oe C (some od) := ⟨ho, hz.1, by unfold PySem.W.notCls; rw [hv] <;> rfl, by rw [hz.2]; exact hod⟩
  exact HandSPX.exc_get I1.kIn J XF.ga XF.gg XF.exC (PySem.W.findObj_own XF.hdC T rfl (by rw [hl, hu])) (handed_of ru) ⟨v, H1, I1.tok _, ru, q⟩
end
end Nd
end

section
set_option Elab.async false
set_option linter.all false
set_option maxRecDepth 100000
/-! NdA: an executable reading of the Python subset over deep values. -/
namespace Nd
open PySem

/-- a value: tuples by value, objects that can change by their place in the store -/
inductive D where
  | non | bl (b : Bool) | int (i : Int) | str (s : Str) | tup (l : List D) | fro (l : List D) | ref (n : Nat) | glb (x : Str) | ty (n : String) | exc (c : Str) (fs : List (Str × D))
  deriving Inhabited
/-- what stands in the store -/
inductive Ob where
  | lst (l : List D) | dct (l : List (L2.Key × D))
  deriving Inhabited
abbrev Store := List Ob
abbrev Env := List (Option D)
/-- what code gives: a value, an error (its class, its attributes), or nothing that is told -/
inductive R (α : Type) where
  | ok (a : α) (st : Store)
  | err (c : D) (fs : List (Str × D)) (st : Store)
  | bad
def R.bind {α β : Type} (m : R α) (f : α → Store → R β) : R β := match m with
  | .ok a st => f a st
  | .err c fs st => .err c fs st
  | .bad => .bad
/-- where code stands: its scope, the names by slot, not within an except suite -/
structure Cc where
  sc : Scope
  N : List Str
  calm : Bool
  fn : Str → Bool
inductive Fl where
  | nx | rt (d : D) | bk | ct
structure Sys where
  E : Cc → PySem.Expr → Env → Store → R D
  T : Cc → PySem.Expr → Env → Store → R Bool
  S : Cc → PySem.Stmt → Env → Store → R (Fl × Env)
  call : Str → List D → Store → R D
/-- a def of the module -/
structure Fn where
  qual : Str
  st : PySem.Stmt
  ps : List Str
  N : List Str
/-- an own error class: the attribute that its __init__ stores; itself and all that it is derived from -/
structure Exc where
  fld : Option Str
  sup : List D
structure Tab where
  fns : List (Str × Fn)
  glb : List (Str × D)
  blt : List Str
  excs : List (Str × Exc)

/-! ### names -/
def ixOf : List Str → Str → Option Nat
  | [], _ => none
  | y :: r, x => if x = y then some 0 else (ixOf r x).map (· + 1)
def bltTy (x : Str) : Option D := match bootBuiltins x with
  | some (.type n) => some (.ty n)
  | _ => none
def slotOf (c : Cc) (x : Str) : Option Nat := match c.sc.names.lookup x with
  | some .local => ixOf c.N x
  | some .cell => ixOf c.N x
  | some .free => ixOf c.N x
  | _ => none
def isGlob (c : Cc) (x : Str) : Bool := match c.sc.names.lookup x with
  | some .globalImplicit => true
  | _ => false
def globOf (T : Tab) (x : Str) : Option D := match T.glb.lookup x with
  | some d => some d
  | none => if (T.fns.lookup x).isSome then some (.glb x) else if T.blt.contains x then bltTy x else none
def look (T : Tab) (c : Cc) (x : Str) (env : Env) : Option D := match slotOf c x with
  | some i => (env[i]?).join
  | none => if isGlob c x then globOf T x else none

/-! ### values -/
def alloc (o : Ob) (st : Store) : Option (D × Store) := some (.ref st.length, st ++ [o])
def lft (o : Option (D × Store)) : R D := match o with
  | some p => .ok p.1 p.2
  | none => .bad
def listAt (st : Store) (n : Nat) : Option (List D) := match st[n]? with
  | some (.lst l) => some l
  | _ => none
/-- the items of a list value -/
def seqL (st : Store) : D → Option (List D)
  | .ref n => listAt st n
  | .fro l => some l
  | _ => none
def optAll {α β : Type} (f : α → Option β) : List α → Option (List β)
  | [] => some []
  | d :: r => match f d, optAll f r with
    | some a, some b => some (a :: b)
    | _, _ => none
/-- the data of a value (nested to the given depth) -/
def dat (st : Store) : Nat → D → Option PyData
  | 0 => fun _ => none
  | k + 1 => fun d => match d with
    | .non => some .none
    | .bl b => some (.bool b)
    | .int i => some (.int i)
    | .str s => some (.str s)
    | .tup l => (optAll (dat st k) l).map PyData.tuple
    | .fro l => (optAll (dat st k) l).map PyData.list
    | .ref n => match listAt st n with
      | some l => (optAll (dat st k) l).map PyData.list
      | none => none
    | _ => none
def truth (st : Store) : D → Option Bool
  | .non => some false
  | .bl b => some b
  | .int i => some (i != 0)
  | .str s => if s.length ≤ sizeLine then some ((s.length : Int) != 0) else none
  | .tup l => some (!l.isEmpty)
  | .fro l => some (!l.isEmpty)
  | .ref n => (listAt st n).map fun l => !l.isEmpty
  | _ => none
def ret (o : Option D) (st : Store) : R D := match o with
  | some d => .ok d st
  | none => .bad
def mulOk (i j : Int) : Bool := decide (-(2 ^ 64) < i ∧ i < 2 ^ 64) || decide (-(2 ^ 64) < j ∧ j < 2 ^ 64)
def powOk (i j : Int) : Bool := decide (0 ≤ j) && decide ((Builtin.Int.intBits i : Int) * j ≤ 2 ^ 27)
def negD : D → Option D
  | .int i => some (.int (-i))
  | _ => none
def addD (x y : D) (st : Store) : Option (D × Store) := match x, y with
  | .int i, .int j => some (.int (i + j), st)
  | .str a, .str b => if a.length + b.length ≤ sizeLine then some (.str (a ++ b), st) else none
  | .ref n, .ref m => match listAt st n, listAt st m with
    | some a, some b => if a.length + b.length ≤ sizeLine then alloc (.lst (a ++ b)) st else none
    | _, _ => none
  | _, _ => none
def subD (x y : D) (st : Store) : Option (D × Store) := match x, y with
  | .int i, .int j => some (.int (i - j), st)
  | _, _ => none
def repS (a : Str) (k : Nat) : Str := if k < 1 then Str.empty else if (k == 1 || a.length == 0) = true then a else ⟨(List.replicate k a.cps).foldl (· ++ ·) #[]⟩
def mulD (x y : D) (st : Store) : Option (D × Store) := match x, y with
  | .int i, .int j => if mulOk i j then some (.int (i * j), st) else none
  | .str a, .int k => if 0 ≤ k ∧ a.length * k.toNat ≤ 2 ^ 20 ∧ k < 2 ^ 20 then some (.str (repS a k.toNat), st) else none
  | .ref n, .int k => match listAt st n with
    | some a => if 0 ≤ k ∧ k < 2 ^ 62 ∧ a.length * k.toNat ≤ sizeLine then alloc (.lst (List.replicate k.toNat a).flatten) st else none
    | none => none
  | _, _ => none
def fdivD (x y : D) (st : Store) : Option (D × Store) := match x, y with
  | .int i, .int j => if 0 < j ∧ j < 1073741824 then some (.int (i / j), st) else none
  | _, _ => none
def modD (x y : D) (st : Store) : Option (D × Store) := match x, y with
  | .int i, .int j => if 0 < j then some (.int (i % j), st) else none
  | _, _ => none
def powD (x y : D) (st : Store) : Option (D × Store) := match x, y with
  | .int i, .int j => if powOk i j then some (.int (i ^ j.toNat), st) else none
  | _, _ => none
def binop (op : Operator) (x y : D) (st : Store) : Option (D × Store) := match op with
  | .Add => addD x y st
  | .Sub => subD x y st
  | .Mult => mulD x y st
  | .FloorDiv => fdivD x y st
  | .Mod => modD x y st
  | .Pow => powD x y st
  | _ => none
def eqG (st : Store) (x y : D) : Option Bool := match dat st 60 x, dat st 60 y with
  | some a, some b => if SeqAt.shaped a && SeqAt.shaped b then some (PyData.eqv a b) else none
  | _, _ => none
def eqD (st : Store) (x y : D) : Option Bool := match x with
  | .str a => match y with
    | .str b => some (decide (a = b))
    | y => eqG st (.str a) y
  | x => eqG st x y
def isNon : D → Bool
  | .non => true
  | _ => false
def anyD (a : PyData) (b : List PyData) : Bool := b.any fun z => PyData.eqv z a
def inD (st : Store) (x y : D) : Option Bool := match y with
  | .str t => match x with
    | .str s => some (!(Builtin.Str.occurrences t s 0 t.length 1).isEmpty)
    | _ => none
  | y => match dat st 60 x, dat st 60 y with
    | some a, some (.list b) => if SeqAt.shaped a && SeqAt.shaped (.list b) then some (anyD a b) else none
    | some a, some (.tuple b) => if SeqAt.shaped a && SeqAt.shaped (.list b) then some (anyD a b) else none
    | _, _ => none
def cmpI (f : Int → Int → Bool) (x y : D) : Option Bool := match x, y with
  | .int i, .int j => some (f i j)
  | _, _ => none
def cmpop (op : CmpOp) (x y : D) (st : Store) : Option Bool := match op with
  | .Lt => cmpI (fun i j => decide (i < j)) x y
  | .LtE => cmpI (fun i j => decide (i ≤ j)) x y
  | .Gt => cmpI (fun i j => decide (j < i)) x y
  | .GtE => cmpI (fun i j => decide (j ≤ i)) x y
  | .Eq => eqD st x y
  | .NotEq => (eqD st x y).map (!·)
  | .Is => if isNon y then some (isNon x) else none
  | .IsNot => if isNon y then some (!isNon x) else none
  | .In => inD st x y
  | .NotIn => (inD st x y).map (!·)
def atD (x y : D) (st : Store) : Option D := match x, y with
  | .ref n, .int i => (listAt st n).bind fun l => L2.atI l i
  | .fro l, .int i => L2.atI l i
  | .tup l, .int i => L2.atI l i
  | .str z, .int i => if z.length ≤ sizeLine then (L2.atI z.cps.toList i).map fun c => .str ⟨#[c]⟩ else none
  | _, _ => none
def b2i (b : Bool) : Int := if b then 1 else 0

/-! ### calls of what is built in -/
def lenD (ds : List D) (st : Store) : Option (D × Store) := match ds with
  | [.str s] => if s.length ≤ sizeLine then some (.int s.length, st) else none
  | [.tup l] => some (.int l.length, st)
  | [d] => (seqL st d).map fun l => (.int l.length, st)
  | _ => none
def absD (ds : List D) (st : Store) : Option (D × Store) := match ds with
  | [.int i] => some (.int (if i < 0 then -i else i), st)
  | _ => none
def intD (ds : List D) (st : Store) : Option (D × Store) := match ds with
  | [.int i] => some (.int i, st)
  | [.bl b] => some (.int (b2i b), st)
  | _ => none
def maxD (ds : List D) (st : Store) : Option (D × Store) := match ds with
  | [.int i, .int j] => some (.int (if j > i then j else i), st)
  | _ => none
def minD (ds : List D) (st : Store) : Option (D × Store) := match ds with
  | [.int i, .int j] => some (.int (if j < i then j else i), st)
  | _ => none
/-! ### what is shown -/
def keyP : L2.Key → PyData
  | .inl i => .int i
  | .inr x => .str x
mutual
/-- no list, no dict in it -/
def flatP : PyData → Bool
  | .list _ => false
  | .dict _ => false
  | .tuple l => flatPs l
  | _ => true
def flatPs : List PyData → Bool
  | [] => true
  | d :: r => flatP d && flatPs r
end
def shwV (st : Store) (d : D) : Option PyData := match dat st 60 d with
  | some p => if flatP p then some p else none
  | none => none
def shwD (st : Store) (l : List (L2.Key × D)) : Option PyData := (optAll (fun kv => (shwV st kv.2).map fun p => (keyP kv.1, p)) l).map PyData.dict
/-- an item of what is shown: a dict of flat values, or data without a dict -/
def shwE (st : Store) (d : D) : Option PyData := match d with
  | .ref n => match st[n]? with
    | some (.dct l) => shwD st l
    | _ => dat st 60 (.ref n)
  | d => dat st 60 d
def shw (st : Store) (d : D) : Option PyData := match d with
  | .ref n => match st[n]? with
    | some (.dct l) => shwD st l
    | some (.lst l) => (optAll (shwE st) l).map PyData.list
    | none => none
  | .fro l => (optAll (shwE st) l).map PyData.list
  | .tup l => (optAll (shwE st) l).map PyData.tuple
  | d => dat st 60 d
def reprD (ds : List D) (st : Store) : Option (D × Store) := match ds with
  | [d] => match shw st d with
    | some p => if p.showable ∧ p.depth ≤ 62 ∧ p.shown.length ≤ sizeLine then some (.str p.shown, st) else none
    | none => none
  | _ => none
/-! ### classes -/
def sameC : D → D → Bool
  | .glb x, .glb y => decide (x = y)
  | .ty n, .ty m => decide (n = m)
  | _, _ => false
/-- classes that may be asked of errors -/
def exTys : List String := ["ValueError", "IndexError", "KeyError", "OverflowError", "ArithmeticError", "LookupError", "Exception"]
def askC (T : Tab) : D → Bool
  | .glb y => (T.excs.lookup y).isSome
  | .ty n => exTys.contains n
  | _ => false
def tyOf (st : Store) : D → Option String
  | .non => some "NoneType"
  | .bl _ => some "bool"
  | .int _ => some "int"
  | .str _ => some "str"
  | .tup _ => some "tuple"
  | .fro _ => some "list"
  | .ref n => match st[n]? with
    | some (.lst _) => some "list"
    | some (.dct _) => some "dict"
    | none => none
  | _ => none
def isa0 (t : Option String) (c : D) : Option Bool := match t, c with
  | some t, .ty n => PySem.W.kitOne [] (.type t) (.type n)
  | _, _ => none
def isa1 (T : Tab) (st : Store) (d c : D) : Option Bool := match d with
  | .exc x _ => match T.excs.lookup x with
    | some e => if askC T c then some (e.sup.any (sameC c)) else none
    | none => none
  | d => isa0 (tyOf st d) c
def isaD (T : Tab) (ds : List D) (st : Store) : Option (D × Store) := match ds with
  | [d, c] => (isa1 T st d c).map fun b => (.bl b, st)
  | _ => none
def attrD (T : Tab) (d : D) (f : Str) : Option D := match d with
  | .exc c fs => match T.excs.lookup c with
    | some e => if e.fld = some f then fs.lookup f else none
    | none => none
  | _ => none
def cutD (xs : List D) (lo hi : Option Int) : List D := (xs.drop (HT.sIx xs.length 0 lo)).take (HT.sIx xs.length xs.length hi - HT.sIx xs.length 0 lo)
/-- x[lo:hi] -/
def sliceD (x : D) (lo hi : Option Int) (st : Store) : Option (D × Store) := match x with
  | .ref n => match listAt st n with
    | some l => alloc (.lst (cutD l lo hi)) st
    | none => none
  | .fro l => alloc (.lst (cutD l lo hi)) st
  | .tup l => if HT.sIx l.length 0 lo = 0 ∧ HT.sIx l.length l.length hi = l.length then none else some (.tup (cutD l lo hi), st)
  | .str z => if z.length ≤ sizeLine then some (.str (Txt.slice z lo hi), st) else none
  | _ => none
/-- a built-in function by its name -/
def bltFn (T : Tab) (x : Str) : Option (List D → Store → Option (D × Store)) :=
  if x = "isinstance" then some (isaD T)
  else if x = "repr" then some reprD
  else if x = "len" then some lenD
  else if x = "abs" then some absD
  else if x = "max" then some maxD
  else if x = "min" then some minD
  else none
/-- a built-in class called by its name -/
def bltCls (x : Str) : Option (List D → Store → Option (D × Store)) :=
  if x = "int" then some intD
  else none
/-! ### what is walked -/
inductive Wk where
  | items (l : List D) | lst (n : Nat)
def rngOk (i : Int) : Bool := decide (-(2 ^ 62) ≤ i) && decide (i < 2 ^ 62)
def rngL (lo : Int) (n : Nat) : List D := (List.range n).map fun (k : Nat) => .int (lo + k)
def walk (st : Store) : D → Option Wk
  | .tup l => some (.items l)
  | .fro l => some (.items l)
  | .ref n => (listAt st n).map fun _ => .lst n
  | _ => none

def noErr {α : Type} (m : R α) : R α := match m with
  | .ok a st => .ok a st
  | _ => .bad
def owk (o : Option Wk) (st : Store) : R Wk := match o with
  | some w => .ok w st
  | none => .bad
def rngW : List D → Option Wk
  | [.int j] => if rngOk j then some (.items (rngL 0 j.toNat)) else none
  | [.int i, .int j] => if rngOk i ∧ rngOk j then some (.items (rngL i (j - i).toNat)) else none
  | _ => none
/-! ### expressions -/
def isSetE : PySem.Expr → Bool
  | .Set _ _ _ => true
  | _ => false
section
variable (T : Tab) (r : Sys)
def isStar : PySem.Expr → Bool
  | .Starred _ _ => true
  | _ => false
/-- written arguments: no star among them -/
def noStar (es : List PySem.Expr) : Bool := es.all fun e => !isStar e
def argsE (c : Cc) : List PySem.Expr → Env → Store → R (List D)
  | [], _, st => .ok [] st
  | e :: es, env, st => if isStar e then .bad else (r.E c e env st).bind fun d st => (argsE c es env st).bind fun ds st => .ok (d :: ds) st
/-- the slot of a target's name -/
def tslot (c : Cc) (x : Str) : Option Nat := match c.sc.names.lookup x with
  | some .local => ixOf c.N x
  | some .cell => if c.fn x then ixOf c.N x else none
  | _ => none
def tnames : List PySem.Expr → Option (List Str)
  | [] => some []
  | .Name x _ :: es => (tnames es).map (x :: ·)
  | _ => none
def setAll (c : Cc) : List Str → List D → Env → Option Env
  | [], [], env => some env
  | x :: xs, d :: ds, env => match tslot c x with
    | some i => setAll c xs ds (env.set i (some d))
    | none => none
  | _, _, _ => none
/-- a target of names is bound -/
def bindT (c : Cc) (tg : PySem.Expr) (d : D) (env : Env) : Option Env := match tg with
  | .Name x _ => match tslot c x with
    | some i => some (env.set i (some d))
    | none => none
  | .Tuple es _ _ => if c.calm then match tnames es, d with
    | some xs, .tup l => setAll c xs l env
    | _, _ => none else none
  | _ => none
def isRange (c : Cc) (x : Str) (args : List PySem.Expr) : Bool :=
  decide (x = "range") && isGlob c x && T.blt.contains x && (T.fns.lookup x).isNone && (T.glb.lookup x).isNone && noStar args && (args.length == 1 || args.length == 2)
def walkE (c : Cc) (iter : PySem.Expr) (env : Env) (st : Store) : R Wk := match iter with
  | .Call (.Name x p) args [] q =>
    if isRange T c x args then (argsE r c args env st).bind fun ds st => owk (rngW ds) st
    else (r.E c (.Call (.Name x p) args [] q) env st).bind fun d st => owk (walk st d) st
  | iter => (r.E c iter env st).bind fun d st => owk (walk st d) st
/-! ### comprehensions -/
def wipeE (env : Env) : List Nat → Env
  | [] => env
  | i :: is => (wipeE env is).set i none
def tgNames : PySem.Expr → Option (List Str)
  | .Name x _ => some [x]
  | .Tuple es _ _ => tnames es
  | _ => none
/-- names with their slots -/
def slots (N : List Str) : List Str → Option (List (Str × Nat))
  | [] => some []
  | x :: xs => match ixOf N x, slots N xs with
    | some i, some l => some ((x, i) :: l)
    | _, _ => none
/-- a comprehension's block -/
def blkOf (c : Cc) (scope : Scope) : Cc := ⟨L2.relS scope c.sc, c.N, c.calm, fun x => scope.names.lookup x == some .cell⟩
def testsE (c : Cc) : List PySem.Expr → Env → Store → R Bool
  | [], _, st => .ok true st
  | [t], env, st => r.T c t env st
  | _, _, _ => .bad
def compItems (tg : D → Env → Option Env) (tst : Env → Store → R Bool) (el : Env → Store → R D) : List D → Env → Store → R (List D)
  | [], _, st => .ok [] st
  | d :: ds, env, st => match tg d env with
    | none => .bad
    | some env' => (noErr (tst env' st)).bind fun b st => if b then (noErr (el env' st)).bind fun y st => (compItems tg tst el ds env st).bind fun ys st => .ok (y :: ys) st
      else compItems tg tst el ds env st
def compList (n : Nat) (tg : D → Env → Option Env) (tst : Env → Store → R Bool) (el : Env → Store → R D) : Nat → Nat → Env → Store → R (List D)
  | 0, _, _, _ => .bad
  | k + 1, i, env, st => match listAt st n with
    | none => .bad
    | some l => if l.length ≤ sizeLine then match l[i]? with
      | none => .ok [] st
      | some d => match tg d env with
        | none => .bad
        | some env' => (noErr (tst env' st)).bind fun b st => if b then (noErr (el env' st)).bind fun y st => (compList n tg tst el k (i + 1) env st).bind fun ys st => .ok (y :: ys) st
          else compList n tg tst el k (i + 1) env st
      else .bad
def compW (w : Wk) (tg : D → Env → Option Env) (tst : Env → Store → R Bool) (el : Env → Store → R D) (env : Env) (st : Store) : R (List D) := match w with
  | .items l => if l.length ≤ sizeLine then compItems tg tst el l env st else .bad
  | .lst n => compList n tg tst el (((listAt st n).getD []).length + 1) 0 env st
/-- the items of a comprehension -/
def compE (c : Cc) (elt tg iter : PySem.Expr) (ifs : List PySem.Expr) (scope : Scope) (env : Env) (st : Store) : R (List D) :=
  match (tgNames tg).bind (slots c.N) with
  | none => .bad
  | some own => if c.calm && !isSetE iter && L2.blkC c.N c.sc scope own && decide (ifs.length ≤ 1) then
      (walkE T r c iter env st).bind fun w st => compW w (bindT (blkOf c scope) tg) (testsE r (blkOf c scope) ifs) (r.E (blkOf c scope) elt) (wipeE env (own.map (·.2))) st
    else .bad
def callE (c : Cc) (f : PySem.Expr) (args : List PySem.Expr) (env : Env) (st : Store) : R D := match f with
  | .Name x _ => if c.calm && isGlob c x && noStar args then
      (match T.excs.lookup x with
       | some e => (match args with
         | [a] => (r.E c a env st).bind fun d st => .ok (.exc x (match e.fld with | none => [] | some f => [(f, d)])) st
         | _ => .bad)
       | none => if (T.glb.lookup x).isSome then .bad
       else match T.fns.lookup x with
        | some F => (argsE r c args env st).bind fun ds st => if ds.length = F.ps.length then r.call x ds st else .bad
        | none => if T.blt.contains x then (match bltFn T x with
          | some f => (argsE r c args env st).bind fun ds st => lft (f ds st)
          | none => match bltCls x with
            | some f => (argsE r c args env st).bind fun ds st => lft (f ds st)
            | none => .bad) else .bad) else .bad
  | _ => .bad
/-- a slice's part -/
def partE (c : Cc) (o : Option PySem.Expr) (env : Env) (st : Store) : R (Option Int) := match o with
  | none => .ok none st
  | some e => (r.E c e env st).bind fun d st => match d with
    | .int i => .ok (some i) st
    | _ => .bad
def keyD : D → Option L2.Key
  | .int i => some (.inl i)
  | .str x => some (.inr x)
  | _ => none
def putD (l : List (L2.Key × D)) (k : L2.Key) (v : D) : List (L2.Key × D) := if (l.any fun kv => decide (kv.1 = k)) = true then l.map (fun kv => if kv.1 = k then (kv.1, v) else kv) else l ++ [(k, v)]
def pairsE (c : Cc) : List (Option PySem.Expr) → List PySem.Expr → Env → Store → R (List (L2.Key × D))
  | [], [], _, st => .ok [] st
  | some k :: ks, v :: vs, env, st => (r.E c k env st).bind fun x st => (r.E c v env st).bind fun y st => match keyD x with
    | some q => (pairsE c ks vs env st).bind fun l st => .ok ((q, y) :: l) st
    | none => .bad
  | _, _, _, _ => .bad
def stepE (c : Cc) (e : PySem.Expr) (env : Env) (st : Store) : R D := match e with
  | .Name x _ => ret (look T c x env) st
  | .Constant .none _ _ => .ok .non st
  | .Constant (.bool b) _ _ => .ok (.bl b) st
  | .Constant (.int i) _ _ => .ok (.int i) st
  | .Constant (.str s) _ _ => .ok (.str s) st
  | .BinOp a op b _ => (r.E c a env st).bind fun x st => (r.E c b env st).bind fun y st => lft (binop op x y st)
  | .UnaryOp .Not a _ => (r.E c a env st).bind fun x st => ret ((truth st x).map fun b => .bl (!b)) st
  | .UnaryOp .USub a _ => (r.E c a env st).bind fun x st => ret (negD x) st
  | .BoolOp _ [a] _ => r.E c a env st
  | .BoolOp .And (a :: b :: es) p => (r.E c a env st).bind fun x st => match truth st x with
    | some true => r.E c (.BoolOp .And (b :: es) p) env st
    | some false => .ok x st
    | none => .bad
  | .BoolOp .Or (a :: b :: es) p => (r.E c a env st).bind fun x st => match truth st x with
    | some false => r.E c (.BoolOp .Or (b :: es) p) env st
    | some true => .ok x st
    | none => .bad
  | .IfExp t a b _ => (r.T c t env st).bind fun k st => if k then r.E c a env st else r.E c b env st
  | .Compare a [op] [b] _ => if behindInMarks op b then .bad else (r.E c a env st).bind fun x st => (r.E c b env st).bind fun y st => ret ((cmpop op x y st).map .bl) st
  | .Call f args [] _ => callE T r c f args env st
  | .ListComp elt [⟨tg, iter, ifs, 0⟩] scope _ => (compE T r c elt tg iter ifs scope env st).bind fun ds st => lft (alloc (.lst ds) st)
  | .List es _ => (argsE r c es env st).bind fun ds st => if ds.length ≤ sizeLine then lft (alloc (.lst ds) st) else .bad
  | .Tuple es _ _ => (argsE r c es env st).bind fun ds st => if ds.length ≤ sizeLine then .ok (.tup ds) st else .bad
  | .Attribute a f _ => match a with
    | .Call _ _ _ _ => .bad
    | a => (r.E c a env st).bind fun x st => ret (attrD T x f) st
  | .Dict [] [] _ => lft (alloc (.dct []) st)
  | .Dict (k :: ks) vs _ => if (decide (ks.length ≤ 14) && (k :: ks).all (·.isSome) && decide ((k :: ks).length = vs.length)) = true then (pairsE r c (k :: ks) vs env st).bind fun l st => lft (alloc (.dct (l.foldl (fun acc kv => putD acc kv.1 kv.2) [])) st) else .bad
  | .Subscript a b _ => match b with
    | .Slice lo hi none _ => (r.E c a env st).bind fun x st => (partE r c lo env st).bind fun lo st => (partE r c hi env st).bind fun hi st => lft (sliceD x lo hi st)
    | .Slice _ _ _ _ => .bad
    | b => (r.E c a env st).bind fun x st => (r.E c b env st).bind fun y st => ret (atD x y st) st
  | _ => .bad
/-- as a test -/
def stepT (c : Cc) (e : PySem.Expr) (env : Env) (st : Store) : R Bool := match e with
  | .UnaryOp .Not a _ => (r.T c a env st).bind fun k st => .ok (!k) st
  | .BoolOp _ [a] _ => r.T c a env st
  | .BoolOp .And (a :: b :: es) p => (r.T c a env st).bind fun k st => if k then r.T c (.BoolOp .And (b :: es) p) env st else .ok false st
  | .BoolOp .Or (a :: b :: es) p => (r.T c a env st).bind fun k st => if k then .ok true st else r.T c (.BoolOp .Or (b :: es) p) env st
  | .BoolOp _ [] _ => .bad
  | .IfExp _ _ _ _ => .bad
  | .Compare a [op] [b] _ => if behindInMarks op b then .bad else (r.E c a env st).bind fun x st => (r.E c b env st).bind fun y st => match cmpop op x y st with
    | some k => .ok k st
    | none => .bad
  | .Compare _ _ _ _ => .bad
  | e => (r.E c e env st).bind fun x st => match truth st x with
    | some k => .ok k st
    | none => .bad

/-! ### statements -/
def blockS (c : Cc) : List PySem.Stmt → Env → Store → R (Fl × Env)
  | [], env, st => .ok (.nx, env) st
  | s :: ss, env, st => (r.S c s env st).bind fun fe st => match fe.1 with
    | .nx => blockS c ss fe.2 st
    | _ => .ok fe st
def forItems (tg : D → Env → Option Env) (body : Env → Store → R (Fl × Env)) : List D → Env → Store → R (Fl × Env)
  | [], env, st => .ok (.nx, env) st
  | d :: ds, env, st => match tg d env with
    | none => .bad
    | some env => (body env st).bind fun fe st => match fe.1 with
      | .nx => forItems tg body ds fe.2 st
      | .ct => forItems tg body ds fe.2 st
      | .bk => .ok (.nx, fe.2) st
      | .rt d => .ok (.rt d, fe.2) st
def forList (n : Nat) (tg : D → Env → Option Env) (body : Env → Store → R (Fl × Env)) : Nat → Nat → Env → Store → R (Fl × Env)
  | 0, _, _, _ => .bad
  | k + 1, i, env, st => match listAt st n with
    | none => .bad
    | some l => match l[i]? with
      | none => .ok (.nx, env) st
      | some d => match tg d env with
        | none => .bad
        | some env => (body env st).bind fun fe st => match fe.1 with
          | .nx => forList n tg body k (i + 1) fe.2 st
          | .ct => forList n tg body k (i + 1) fe.2 st
          | .bk => .ok (.nx, fe.2) st
          | .rt d => .ok (.rt d, fe.2) st
def forW (w : Wk) (tg : D → Env → Option Env) (body : Env → Store → R (Fl × Env)) (env : Env) (st : Store) : R (Fl × Env) := match w with
  | .items l => forItems tg body l env st
  | .lst n => forList n tg body (((listAt st n).getD []).length + 1) 0 env st
def setItemD (o i v : D) (st : Store) : Option Store := match o, i with
  | .ref n, .int k => match st[n]? with
    | some (.lst l) => match L2.ixN l.length k with
      | some j => some (st.set n (.lst (l.set j v)))
      | none => none
    | _ => none
  | _, _ => none
def isComp : PySem.Expr → Bool
  | .ListComp _ _ _ _ => true
  | .SetComp _ _ _ _ => true
  | .DictComp _ _ _ _ _ => true
  | _ => false
def isSlice : PySem.Expr → Bool
  | .Slice _ _ _ _ => true
  | _ => false
/-- x, y = a, b: stored from the right -/
def parOk (sc : Scope) (x y : Str) (px py : Pos) (a b : PySem.Expr) : Bool := sc.kind == .function && sc.names.lookup x == some .local && sc.names.lookup y == some .local && py.line == px.line && !(x == y) && !isStar a && !isStar b &&
  !([a, b].all (foldedForSure 8)) && !([a, b].all (constantsAlone 8))
def parE (ts : List PySem.Expr) (e : PySem.Expr) : Option (Str × Pos × Str × Pos × PySem.Expr × PySem.Expr) := match ts, e with
  | [.Name x px, .Name y py], .Tuple [a, b] _ _ => some (x, px, y, py, a, b)
  | _, _ => none
def stepS (c : Cc) (s : PySem.Stmt) (env : Env) (st : Store) : R (Fl × Env) := match s with
  | .Pass _ => .ok (.nx, env) st
  | .Break _ => .ok (.bk, env) st
  | .Continue _ => .ok (.ct, env) st
  | .Return none _ => .ok (.rt .non, env) st
  | .Return (some e) _ => (r.E c e env st).bind fun d st => .ok (.rt d, env) st
  | .Expr e _ => if isComp e then .bad else (r.E c e env st).bind fun _ st => .ok (.nx, env) st
  | .If t a b _ => (r.T c t env st).bind fun k st => if k then blockS r c a env st else blockS r c b env st
  | .Assign [.Name x p] e _ => if isComp e then .bad else match tslot c x with
    | some i => (r.E c e env st).bind fun d st => .ok (.nx, env.set i (some d)) st
    | none => .bad
  | .Assign [.Tuple ts _ _] e _ => match parE ts e with
      | some (x, px, y, py, a, b) => if c.calm && parOk c.sc x y px py a b then match ixOf c.N x, ixOf c.N y with
        | some i, some j => (r.E c a env st).bind fun v st => (r.E c b env st).bind fun w st => .ok (.nx, (env.set i (some v)).set j (some w)) st
        | _, _ => .bad
        else .bad
      | none => .bad
  | .Assign [.Subscript o i _] e _ => if isComp e || isSlice i then .bad else (r.E c e env st).bind fun v st => (r.E c o env st).bind fun x st => (r.E c i env st).bind fun y st => match setItemD x y v st with
      | some st => .ok (.nx, env) st
      | none => .bad
  | .For tg iter body [] _ => if c.calm && !isSetE iter then (walkE T r c iter env st).bind fun w st => forW w (bindT c tg) (blockS r c body) env st else .bad
  | _ => .bad
def start (N : List Str) (ds : List D) : Env := ds.map some ++ List.replicate (N.length - ds.length) none
def stepCall (x : Str) (ds : List D) (st : Store) : R D := match T.fns.lookup x with
  | none => .bad
  | some F => if ds.length = F.ps.length then
      (blockS r ⟨L2.defScope F.st, F.N, true, fun _ => true⟩ (L2.defBody F.st) (start F.N ds) st).bind fun fe st => match fe.1 with
        | .rt d => .ok d st
        | .nx => .ok .non st
        | _ => .bad
    else .bad
def step : Sys := ⟨stepE T r, stepT r, stepS T r, stepCall T r⟩
end
def run (T : Tab) : Nat → Sys
  | 0 => ⟨fun _ _ _ _ => .bad, fun _ _ _ _ => .bad, fun _ _ _ _ => .bad, fun _ _ _ => .bad⟩
  | n + 1 => step T (run T n)
end Nd
end

section
set_option Elab.async false
set_option linter.all false
set_option maxRecDepth 100000
/-! NdB: how deep values stand in the layer's heap. -/
namespace Nd
open PySem PySem.Spec PyProof.Rows L2

/-- a list that nobody changes -/
def SqF (K : PySem.W.Frag) (H : Hp) (a : Addr) (xs : List V) : Prop :=
  (∃ o, H a = some (.frz o (.lst xs))) ∨
    ∃ (o : Obj) (its : Array Value) (n : Nat), K.lookup a = some o ∧ o.cls = .type "list" ∧ o.dict = none ∧ o.data = .seq its n ∧ its.size ≤ sizeLine ∧ Vals xs its.toList
theorem SqF.sql {K : PySem.W.Frag} {H : Hp} {a : Addr} {xs : List V} (h : SqF K H a xs) : SqL K H a xs := by
  rcases h with ⟨o, h⟩ | h
  · exact .inl (.inr ⟨o, h⟩)
  · exact .inr h
section
variable (K : PySem.W.Frag) (mg : Str → Option Value) (ρ : List Addr) (H : Hp)
mutual
inductive Rep : D → V → Prop
  | non : Rep .non .non
  | bl (b : Bool) : Rep (.bl b) (.bl b)
  | int (i : Int) : Rep (.int i) (.int i)
  | str (x : Str) : Rep (.str x) (.str x)
  | tup {l : List D} {a : Addr} {xs : List V} : SqT K H a xs → RepL l xs → Rep (.tup l) (.ref a)
  | fro {l : List D} {a : Addr} {xs : List V} : SqF K H a xs → RepL l xs → Rep (.fro l) (.ref a)
  | ref {n : Nat} {a : Addr} : ρ[n]? = some a → Rep (.ref n) (.ref a)
  | glb {x : Str} {a : Addr} : mg x = some (.ref a) → Rep (.glb x) (.ref a)
  | ty (n : String) : Rep (.ty n) (.ty n)
  | exc0 {c : Str} {C a : Addr} : mg c = some (.ref C) → a ∉ ρ → H a = some (ExOd (.ref C) none a) → Rep (.exc c []) (.ref a)
  | exc1 {c f : Str} {C a dx : Addr} {d : D} {v : V} : mg c = some (.ref C) → a ∉ ρ → H a = some (ExOd (.ref C) (some dx) a) → dx ∉ ρ → H dx = some (.xd [(f, v)]) → Rep d v → Rep (.exc c [(f, d)]) (.ref a)
inductive RepL : List D → List V → Prop
  | nil : RepL [] []
  | cons {d : D} {v : V} {ds : List D} {vs : List V} : Rep d v → RepL ds vs → RepL (d :: ds) (v :: vs)
end
end
section
variable {K : PySem.W.Frag} {mg : Str → Option Value} {ρ ρ' ρ'' : List Addr} {H H' H'' : Hp}
/-- what stays as the heap goes on -/
structure Ext (ρ : List Addr) (H : Hp) (ρ' : List Addr) (H' : Hp) : Prop where
  pre : ∃ more, ρ' = ρ ++ more ∧ ∀ a ∈ more, H a = none
  out : ∀ a o, H a = some o → a ∉ ρ → H' a = some o
  tup : ∀ a xs, H a = some (.tup xs) → H' a = some (.tup xs)
  frz : ∀ a o u, H a = some (.frz o u) → H' a = some (.frz o u)
  trk : ∀ a, H a ≠ none → H' a ≠ none
theorem Ext.refl : Ext ρ H ρ H := ⟨⟨[], by simp⟩, fun _ _ h _ => h, fun _ _ h => h, fun _ _ _ h => h, fun _ h => h⟩
theorem Ext.trans (e : Ext ρ H ρ' H') (f : Ext ρ' H' ρ'' H'') : Ext ρ H ρ'' H'' := by
  obtain ⟨m1, rfl, h1⟩ := e.pre
  obtain ⟨m2, rfl, h2⟩ := f.pre
  have back : ∀ a, H' a = none → H a = none := fun a q => by
    cases z : H a with
    | none => rfl
    | some o => exact absurd q (e.trk a (by rw [z]; simp))
  refine ⟨⟨m1 ++ m2, by rw [List.append_assoc], fun a ha => ?_⟩, fun a o h hn => ?_, fun a xs h => f.tup a xs (e.tup a xs h), fun a o u h => f.frz a o u (e.frz a o u h), fun a h => f.trk a (e.trk a h)⟩
  · rcases List.mem_append.mp ha with ha | ha
    · exact h1 a ha
    · exact back a (h2 a ha)
  · refine f.out a o (e.out a o h hn) fun ha => ?_
    rcases List.mem_append.mp ha with ha | ha
    · exact hn ha
    · rw [h1 a ha] at h; cases h
theorem Ext.ix (e : Ext ρ H ρ' H') {n : Nat} {a : Addr} (h : ρ[n]? = some a) : ρ'[n]? = some a := by
  obtain ⟨m, rfl, _⟩ := e.pre
  rw [List.getElem?_append_left (List.getElem?_eq_some_iff.mp h).1]
  exact h
theorem Ext.sqt (e : Ext ρ H ρ' H') {a : Addr} {xs : List V} (h : SqT K H a xs) : SqT K H' a xs := by
  rcases h with (h | ⟨o, h⟩) | h
  · exact .inl (.inl (e.tup _ _ h))
  · exact .inl (.inr ⟨o, e.frz _ _ _ h⟩)
  · exact .inr h
theorem Ext.sqf (e : Ext ρ H ρ' H') {a : Addr} {xs : List V} (h : SqF K H a xs) : SqF K H' a xs := by
  rcases h with ⟨o, h⟩ | h
  · exact .inl ⟨o, e.frz _ _ _ h⟩
  · exact .inr h
/-- what stands still: an error, its dict -/
def Stl (H : Hp) (a : Addr) : Prop := (∃ φ, H a = some (.ext φ)) ∨ ∃ fs, H a = some (.xd fs)
theorem Stl.some {a : Addr} (h : Stl H a) : H a ≠ none := by
  rcases h with ⟨_, h⟩ | ⟨_, h⟩ <;> rw [h] <;> simp
theorem stl_exOd {a : Addr} {cls : Value} {d : Option Addr} (h : H a = some (ExOd cls d a)) : Stl H a := .inl ⟨_, h⟩
theorem Ext.stl (e : Ext ρ H ρ' H') {a : Addr} (ha : a ∉ ρ) (h : Stl H a) : a ∉ ρ' ∧ H' a = H a := by
  obtain ⟨m, rfl, hm⟩ := e.pre
  refine ⟨fun z => ?_, ?_⟩
  · rcases List.mem_append.mp z with z | z
    · exact ha z
    · exact h.some (hm a z)
  · cases q : H a with
    | none => exact absurd q h.some
    | some o => exact e.out a o q ha
/-- what a value leans on stays -/
structure Kp (ρ : List Addr) (H : Hp) (ρ' : List Addr) (H' : Hp) : Prop where
  ix : ∀ {n : Nat} {a : Addr}, ρ[n]? = some a → ρ'[n]? = some a
  tup : ∀ a xs, H a = some (.tup xs) → H' a = some (.tup xs)
  frz : ∀ a o u, H a = some (.frz o u) → H' a = some (.frz o u)
  stl : ∀ a, a ∉ ρ → Stl H a → a ∉ ρ' ∧ H' a = H a
theorem Ext.kp (e : Ext ρ H ρ' H') : Kp ρ H ρ' H' := ⟨e.ix, e.tup, e.frz, fun _ ha h => e.stl ha h⟩
theorem Kp.sqt (e : Kp ρ H ρ' H') {a : Addr} {xs : List V} (h : SqT K H a xs) : SqT K H' a xs := by
  rcases h with (h | ⟨o, h⟩) | h
  · exact .inl (.inl (e.tup _ _ h))
  · exact .inl (.inr ⟨o, e.frz _ _ _ h⟩)
  · exact .inr h
theorem Kp.sqf (e : Kp ρ H ρ' H') {a : Addr} {xs : List V} (h : SqF K H a xs) : SqF K H' a xs := by
  rcases h with ⟨o, h⟩ | h
  · exact .inl ⟨o, e.frz _ _ _ h⟩
  · exact .inr h
mutual
theorem Rep.kp (e : Kp ρ H ρ' H') : ∀ {d : D} {v : V}, Rep K mg ρ H d v → Rep K mg ρ' H' d v
  | _, _, .non => .non
  | _, _, .bl b => .bl b
  | _, _, .int i => .int i
  | _, _, .str x => .str x
  | _, _, .tup h l => .tup (e.sqt h) (RepL.kp e l)
  | _, _, .fro h l => .fro (e.sqf h) (RepL.kp e l)
  | _, _, .ref h => .ref (e.ix h)
  | _, _, .glb h => .glb h
  | _, _, .ty n => .ty n
  | _, _, .exc0 hm hn h => let z := e.stl _ hn (stl_exOd h); .exc0 hm z.1 (z.2.trans h)
  | _, _, .exc1 hm hn h hn2 h2 r => let z := e.stl _ hn (stl_exOd h); let y := e.stl _ hn2 (.inr ⟨_, h2⟩); .exc1 hm z.1 (z.2.trans h) y.1 (y.2.trans h2) (Rep.kp e r)
theorem RepL.kp (e : Kp ρ H ρ' H') : ∀ {ds : List D} {vs : List V}, RepL K mg ρ H ds vs → RepL K mg ρ' H' ds vs
  | _, _, .nil => .nil
  | _, _, .cons h t => .cons (Rep.kp e h) (RepL.kp e t)
end
theorem Rep.ext (e : Ext ρ H ρ' H') {d : D} {v : V} (h : Rep K mg ρ H d v) : Rep K mg ρ' H' d v := h.kp e.kp
theorem RepL.ext (e : Ext ρ H ρ' H') {ds : List D} {vs : List V} (h : RepL K mg ρ H ds vs) : RepL K mg ρ' H' ds vs := h.kp e.kp
theorem RepL.length : ∀ {ds : List D} {vs : List V}, RepL K mg ρ H ds vs → ds.length = vs.length
  | _, _, .nil => rfl
  | _, _, .cons _ t => by rw [List.length_cons, List.length_cons, RepL.length t]
theorem RepL.append : ∀ {ds es : List D} {vs us : List V}, RepL K mg ρ H ds vs → RepL K mg ρ H es us → RepL K mg ρ H (ds ++ es) (vs ++ us)
  | _, _, _, _, .nil, s => s
  | _, _, _, _, .cons h t, s => .cons h (RepL.append t s)
theorem RepL.get : ∀ {ds : List D} {vs : List V} {i : Nat} {d : D}, RepL K mg ρ H ds vs → ds[i]? = some d → ∃ v, vs[i]? = some v ∧ Rep K mg ρ H d v
  | _, _, _, _, .nil, e => by simp at e
  | _, _, 0, _, .cons h _, e => by simp at e; subst e; exact ⟨_, rfl, h⟩
  | _, _, i + 1, _, .cons _ t, e => by
    obtain ⟨v, h1, h2⟩ := RepL.get (i := i) t (by simpa using e)
    exact ⟨v, by simpa using h1, h2⟩
theorem RepL.get' : ∀ {ds : List D} {vs : List V} {i : Nat} {v : V}, RepL K mg ρ H ds vs → vs[i]? = some v → ∃ d, ds[i]? = some d ∧ Rep K mg ρ H d v
  | _, _, _, _, .nil, e => by simp at e
  | _, _, 0, _, .cons h _, e => by simp at e; subst e; exact ⟨_, rfl, h⟩
  | _, _, i + 1, _, .cons _ t, e => by
    obtain ⟨v, h1, h2⟩ := RepL.get' (i := i) t (by simpa using e)
    exact ⟨v, by simpa using h1, h2⟩
theorem RepL.set {d : D} {v : V} (r : Rep K mg ρ H d v) : ∀ {ds : List D} {vs : List V} (i : Nat), RepL K mg ρ H ds vs → RepL K mg ρ H (ds.set i d) (vs.set i v)
  | _, _, _, .nil => .nil
  | _, _, 0, .cons _ t => .cons r t
  | _, _, i + 1, .cons h t => .cons h (RepL.set r i t)
theorem RepL.ints : ∀ (ns : List Int), RepL K mg ρ H (ns.map D.int) (ns.map V.int)
  | [] => .nil
  | n :: r => .cons (.int n) (RepL.ints r)
theorem RepL.rep {ds : List D} {vs : List V} (h : RepL K mg ρ H ds vs) : ∀ k : Nat, RepL K mg ρ H (List.replicate k ds).flatten (List.replicate k vs).flatten
  | 0 => .nil
  | k + 1 => by
    rw [List.replicate_succ, List.replicate_succ, List.flatten_cons, List.flatten_cons]
    exact h.append (RepL.rep h k)

/-- an object of the store -/
def ObR (K : PySem.W.Frag) (mg : Str → Option Value) (ρ : List Addr) (H : Hp) (a : Addr) : Ob → Prop
  | .lst l => ∃ xs, H a = some (.lst xs) ∧ RepL K mg ρ H l xs
  | .dct l => ∃ kvs : List (L2.Key × V), H a = some (.dK kvs) ∧ kvs.map (·.1) = l.map (·.1) ∧ RepL K mg ρ H (l.map (·.2)) (kvs.map (·.2))
structure Sim (K : PySem.W.Frag) (mg : Str → Option Value) (ρ : List Addr) (st : Store) (H : Hp) : Prop where
  len : ρ.length = st.length
  nd : ρ.Nodup
  obj : ∀ (n : Nat) (a : Addr) (o : Ob), ρ[n]? = some a → st[n]? = some o → ObR K mg ρ H a o
theorem ObR.ne {a : Addr} {o : Ob} (h : ObR K mg ρ H a o) : H a ≠ none ∧ (∀ xs, H a ≠ some (.tup xs)) ∧ ∀ ob u, H a ≠ some (.frz ob u) := by
  cases o with
  | lst l =>
    obtain ⟨xs, e, _⟩ := h
    rw [e]
    exact ⟨by simp, by simp, by simp⟩
  | dct l =>
    obtain ⟨xs, e, _⟩ := h
    rw [e]
    exact ⟨by simp, by simp, by simp⟩
theorem ObR.nostl {a : Addr} {o : Ob} (h : ObR K mg ρ H a o) : ¬ Stl H a := by
  cases o with
  | lst l =>
    obtain ⟨xs, e, _⟩ := h
    rintro (⟨_, z⟩ | ⟨_, z⟩) <;> rw [e] at z <;> cases z
  | dct l =>
    obtain ⟨xs, e, _⟩ := h
    rintro (⟨_, z⟩ | ⟨_, z⟩) <;> rw [e] at z <;> cases z
theorem Sim.mem {st : Store} (s : Sim K mg ρ st H) {a : Addr} (h : a ∈ ρ) : H a ≠ none ∧ (∀ xs, H a ≠ some (.tup xs)) ∧ ∀ ob u, H a ≠ some (.frz ob u) := by
  obtain ⟨n, hn⟩ := List.getElem?_of_mem h
  have hl := (List.getElem?_eq_some_iff.mp hn).1
  rw [s.len] at hl
  exact (s.obj n a _ hn (List.getElem?_eq_getElem hl)).ne
theorem Sim.addr {st : Store} (s : Sim K mg ρ st H) {n : Nat} {o : Ob} (h : st[n]? = some o) : ∃ a, ρ[n]? = some a ∧ ObR K mg ρ H a o := by
  have hl := (List.getElem?_eq_some_iff.mp h).1
  rw [← s.len] at hl
  exact ⟨ρ[n], List.getElem?_eq_getElem hl, s.obj n _ o (List.getElem?_eq_getElem hl) h⟩
theorem ObR.kp (e : Kp ρ H ρ' H') {a : Addr} {o : Ob} (h : ObR K mg ρ H a o) (k : H' a = H a) : ObR K mg ρ' H' a o := by
  cases o with
  | lst l =>
    obtain ⟨xs, q, r⟩ := h
    exact ⟨xs, by rw [k]; exact q, r.kp e⟩
  | dct l =>
    obtain ⟨xs, q, z, r⟩ := h
    exact ⟨xs, by rw [k]; exact q, z, r.kp e⟩
theorem ObR.ext (e : Ext ρ H ρ' H') {a : Addr} {o : Ob} (h : ObR K mg ρ H a o) (k : H' a = H a) : ObR K mg ρ' H' a o := h.kp e.kp k
/-- new things that the store doesn't tell -/
theorem ext_new {p : Addr} {o : HO} (hp : H p = none) : Ext ρ H ρ (upd H p o) := by
  have k : ∀ a u, H a = some u → upd H p o a = some u := fun a u h => by rw [upd_ne (ne_of_none h hp)]; exact h
  refine ⟨⟨[], by simp⟩, fun a u h _ => k a u h, fun a xs h => k a _ h, fun a ob u h => k a _ h, fun a h => ?_⟩
  cases z : H a with
  | none => exact absurd z h
  | some u => rw [k a u z]; simp
theorem sim_new {st : Store} {p : Addr} {o : HO} (s : Sim K mg ρ st H) (hp : H p = none) : Sim K mg ρ st (upd H p o) :=
  ⟨s.len, s.nd, fun n a ob h1 h2 => (s.obj n a ob h1 h2).ext (ext_new hp) (upd_ne fun z => (s.mem (List.mem_of_getElem? h1)).1 (by rw [z]; exact hp))⟩
/-- a new object of the store -/
theorem ext_alloc {p : Addr} {o : HO} (hp : H p = none) : Ext ρ H (ρ ++ [p]) (upd H p o) := by
  have e := ext_new (ρ := ρ) (o := o) hp
  exact ⟨⟨[p], rfl, fun a h => by rw [List.mem_singleton.mp h]; exact hp⟩, e.out, e.tup, e.frz, e.trk⟩
theorem sim_alloc {st : Store} {p : Addr} {o : HO} {ob : Ob} (s : Sim K mg ρ st H) (hp : H p = none) (h : ObR K mg (ρ ++ [p]) (upd H p o) p ob) : Sim K mg (ρ ++ [p]) (st ++ [ob]) (upd H p o) := by
  have np : p ∉ ρ := fun z => (s.mem z).1 hp
  refine ⟨by simp [s.len], ?_, fun n a u h1 h2 => ?_⟩
  · rw [List.nodup_append]
    refine ⟨s.nd, by simp, fun a ha b hb => ?_⟩
    rw [List.mem_singleton.mp hb]
    exact fun z => np (z ▸ ha)
  · by_cases hn : n < ρ.length
    · rw [List.getElem?_append_left hn] at h1
      rw [List.getElem?_append_left (by rw [← s.len]; exact hn)] at h2
      exact (s.obj n a u h1 h2).ext (ext_alloc hp) (upd_ne fun z => (s.mem (List.mem_of_getElem? h1)).1 (by rw [z]; exact hp))
    · have e1 := List.getElem?_append_right (l₁ := ρ) (l₂ := [p]) (Nat.le_of_not_lt hn)
      rw [e1] at h1
      have hz : n - ρ.length = 0 := by
        by_cases z : n - ρ.length = 0
        · exact z
        · have := (List.getElem?_eq_some_iff.mp h1).1
          simp at this
          omega
      rw [hz] at h1
      have ea : a = p := by simpa using h1.symm
      rw [List.getElem?_append_right (by rw [← s.len]; omega)] at h2
      rw [show n - st.length = 0 by rw [← s.len]; exact hz] at h2
      have eu : u = ob := by simpa using h2.symm
      rw [ea, eu]
      exact h
/-- an object that stands already comes into the store -/
theorem kp_adopt {p : Addr} (hp : ¬ Stl H p) : Kp ρ H (ρ ++ [p]) H := ⟨fun {n a} e => by rw [List.getElem?_append_left (List.getElem?_eq_some_iff.mp e).1]; exact e, fun _ _ e => e, fun _ _ _ e => e, fun a ha h => ⟨fun z => by
  rcases List.mem_append.mp z with z | z
  · exact ha z
  · rw [List.mem_singleton.mp z] at h
    exact hp h, rfl⟩⟩
theorem sim_adopt {st : Store} {p : Addr} {ob : Ob} (s : Sim K mg ρ st H) (np : p ∉ ρ) (h : ObR K mg (ρ ++ [p]) H p ob) : Sim K mg (ρ ++ [p]) (st ++ [ob]) H := by
  have k : Kp ρ H (ρ ++ [p]) H := kp_adopt h.nostl
  refine ⟨by simp [s.len], ?_, fun n a u h1 h2 => ?_⟩
  · rw [List.nodup_append]
    refine ⟨s.nd, by simp, fun a ha b hb => ?_⟩
    rw [List.mem_singleton.mp hb]
    exact fun z => np (z ▸ ha)
  · by_cases hn : n < ρ.length
    · rw [List.getElem?_append_left hn] at h1
      rw [List.getElem?_append_left (by rw [← s.len]; exact hn)] at h2
      exact (s.obj n a u h1 h2).kp k rfl
    · have e1 := List.getElem?_append_right (l₁ := ρ) (l₂ := [p]) (Nat.le_of_not_lt hn)
      rw [e1] at h1
      have hz : n - ρ.length = 0 := by
        by_cases z : n - ρ.length = 0
        · exact z
        · have := (List.getElem?_eq_some_iff.mp h1).1
          simp at this
          omega
      rw [hz] at h1
      have ea : a = p := by simpa using h1.symm
      rw [List.getElem?_append_right (by rw [← s.len]; omega)] at h2
      rw [show n - st.length = 0 by rw [← s.len]; exact hz] at h2
      have eu : u = ob := by simpa using h2.symm
      rw [ea, eu]
      exact h
/-- an object of the store changed -/
theorem ext_set {st : Store} {n : Nat} {a : Addr} {o : HO} (s : Sim K mg ρ st H) (ha : ρ[n]? = some a) : Ext ρ H ρ (upd H a o) := by
  have hm := List.mem_of_getElem? ha
  obtain ⟨h0, h1, h2⟩ := s.mem hm
  refine ⟨⟨[], by simp⟩, fun b u h hb => ?_, fun b xs h => ?_, fun b ob u h => ?_, fun b h => ?_⟩
  · rw [upd_ne (show b ≠ a from fun z => hb (by rw [z]; exact hm))]; exact h
  · rw [upd_ne fun z => h1 xs (by rw [← z]; exact h)]; exact h
  · rw [upd_ne fun z => h2 ob u (by rw [← z]; exact h)]; exact h
  · by_cases z : b = a
    · rw [z, upd_same]; simp
    · rw [upd_ne z]; exact h
theorem sim_set {st : Store} {n : Nat} {a : Addr} {o : HO} {ob : Ob} (s : Sim K mg ρ st H) (ha : ρ[n]? = some a) (h : ObR K mg ρ (upd H a o) a ob) : Sim K mg ρ (st.set n ob) (upd H a o) := by
  have e := ext_set (o := o) s ha
  refine ⟨by simp [s.len], s.nd, fun m b u h1 h2 => ?_⟩
  by_cases hm : m = n
  · subst hm
    rw [ha] at h1; cases h1
    have hl : m < st.length := by rw [← s.len]; exact (List.getElem?_eq_some_iff.mp ha).1
    rw [List.getElem?_set_self hl] at h2
    cases h2
    exact h
  · rw [List.getElem?_set_ne (Ne.symm hm)] at h2
    refine (s.obj m b u h1 h2).ext e (upd_ne fun z => hm ?_)
    subst z
    exact nodup_ix' s.nd h1 ha
where
  nodup_ix' {α : Type} {l : List α} (hN : l.Nodup) {i j : Nat} {x : α} (a : l[i]? = some x) (b : l[j]? = some x) : i = j := by
    obtain ⟨h1, e1⟩ := List.getElem?_eq_some_iff.mp a
    obtain ⟨h2, e2⟩ := List.getElem?_eq_some_iff.mp b
    exact (List.getElem_inj hN).mp (e1.trans e2.symm)

/-! ### the slots -/
structure EnvR (K : PySem.W.Frag) (mg : Str → Option Value) (ρ : List Addr) (H : Hp) (env : Env) (σ : L2.St) : Prop where
  len : env.length = σ.length
  at_ : ∀ (i : Nat) d, env[i]? = some (some d) → ∃ v, σ[i]? = some (some v) ∧ Rep K mg ρ H d v
theorem EnvR.ext (e : Ext ρ H ρ' H') {env : Env} {σ : L2.St} (h : EnvR K mg ρ H env σ) : EnvR K mg ρ' H' env σ :=
  ⟨h.len, fun i d q => let ⟨v, h1, h2⟩ := h.at_ i d q; ⟨v, h1, h2.ext e⟩⟩
theorem EnvR.set {env : Env} {σ : L2.St} {d : D} {v : V} (h : EnvR K mg ρ H env σ) (i : Nat) (r : Rep K mg ρ H d v) : EnvR K mg ρ H (env.set i (some d)) (σ.set i (some v)) := by
  refine ⟨by simp [h.len], fun j d' q => ?_⟩
  by_cases hj : i = j
  · subst hj
    have hl : i < env.length := by
      have := (List.getElem?_eq_some_iff.mp q).1
      simpa using this
    rw [List.getElem?_set_self hl] at q
    cases q
    exact ⟨v, List.getElem?_set_self (by rw [← h.len]; exact hl), r⟩
  · rw [List.getElem?_set_ne hj] at q
    rw [List.getElem?_set_ne hj]
    exact h.at_ j d' q

/-! ### what is wanted behind a piece of code -/
def After (K : PySem.W.Frag) (mg : Str → Option Value) (ρ : List Addr) (H : Hp) {α : Type} (m : R α) (Q : α → List Addr → Store → Hp → Prop) (E : D → List (Str × D) → List Addr → Store → Hp → Prop) : Prop :=
  match m with
  | .ok a st => ∀ ρ' H', Sim K mg ρ' st H' → Ext ρ H ρ' H' → Q a ρ' st H'
  | .err c fs st => ∀ ρ' H', Sim K mg ρ' st H' → Ext ρ H ρ' H' → E c fs ρ' st H'
  | .bad => False
variable {α β : Type} {m : R α} {Q Q' : α → List Addr → Store → Hp → Prop} {E : D → List (Str × D) → List Addr → Store → Hp → Prop}
theorem After.base (h : After K mg ρ H m Q E) (e : Ext ρ H ρ' H') : After K mg ρ' H' m Q E := by
  cases m with
  | ok a st => exact fun ρ2 H2 s x => h ρ2 H2 s (e.trans x)
  | err c fs st => exact fun ρ2 H2 s x => h ρ2 H2 s (e.trans x)
  | bad => exact h
theorem After.mono (h : After K mg ρ H m Q E) (k : ∀ a ρ' st H', Sim K mg ρ' st H' → Ext ρ H ρ' H' → Q a ρ' st H' → Q' a ρ' st H') : After K mg ρ H m Q' E := by
  cases m with
  | ok a st => exact fun ρ2 H2 s x => k a ρ2 st H2 s x (h ρ2 H2 s x)
  | err c fs st => exact h
  | bad => exact h
theorem After.monoEq (h : After K mg ρ H m Q E) (k : ∀ a ρ' st H', m = .ok a st → Sim K mg ρ' st H' → Ext ρ H ρ' H' → Q a ρ' st H' → Q' a ρ' st H') : After K mg ρ H m Q' E := by
  cases m with
  | ok a st => exact fun ρ2 H2 s x => k a ρ2 st H2 rfl s x (h ρ2 H2 s x)
  | err c fs st => exact h
  | bad => exact h
/-- .. the base kept -/
theorem After.first0 {f : α → Store → R β} {Qb : β → List Addr → Store → Hp → Prop} (h : After K mg ρ H (m.bind f) Qb E) : After K mg ρ H m (fun a _ st' _ => After K mg ρ H (f a st') Qb E) E := by
  cases m with
  | ok a st => exact fun ρ2 H2 s x => h
  | err c fs st => exact h
  | bad => exact h
/-- the first of two steps -/
theorem After.first {f : α → Store → R β} {Qb : β → List Addr → Store → Hp → Prop} (h : After K mg ρ H (m.bind f) Qb E) : After K mg ρ H m (fun a ρ' st' H' => After K mg ρ' H' (f a st') Qb E) E := by
  cases m with
  | ok a st => exact fun ρ2 H2 s x => After.base (show After K mg ρ H (f a st) Qb E from h) x
  | err c fs st => exact h
  | bad => exact h
theorem After.okv {a : α} {st : Store} (h : After K mg ρ H (.ok a st) Q E) (s : Sim K mg ρ st H) : Q a ρ st H := h ρ H s Ext.refl
end
end Nd
end

section
set_option Elab.async false
set_option linter.all false
set_option maxRecDepth 100000
/-! NdC: the operations are right. -/
namespace Nd
open PySem PySem.Spec PyProof.Rows L2
section
variable {K : PySem.W.Frag} {mg : Str → Option Value} {ρ ρ' : List Addr} {H H' : Hp} {st : Store}

theorem listAt_some {n : Nat} {l : List D} (h : listAt st n = some l) : st[n]? = some (.lst l) := by
  unfold listAt at h
  split at h
  · rename_i l' e
    cases h
    exact e
  · cases h
theorem Sim.list (s : Sim K mg ρ st H) {n : Nat} {l : List D} (h : listAt st n = some l) {a : Addr} (ha : ρ[n]? = some a) : ∃ xs, H a = some (.lst xs) ∧ RepL K mg ρ H l xs :=
  s.obj n a _ ha (listAt_some h)
/-- the items of a list value -/
theorem seqL_ok (s : Sim K mg ρ st H) {d : D} {v : V} {l : List D} (h : seqL st d = some l) (r : Rep K mg ρ H d v) : ∃ a xs, v = .ref a ∧ SqL K H a xs ∧ RepL K mg ρ H l xs := by
  cases r with
  | ref ha =>
    obtain ⟨xs, e, rl⟩ := s.list h ha
    exact ⟨_, xs, rfl, .of e, rl⟩
  | fro hs rl => cases h; exact ⟨_, _, rfl, hs.sql, rl⟩
  | _ => cases h
theorem truth_ok (s : Sim K mg ρ st H) {d : D} {v : V} {k : Bool} (h : truth st d = some k) (r : Rep K mg ρ H d v) : TruV K v H k := by
  have em : ∀ {l : List D} {xs : List V}, RepL K mg ρ H l xs → (!l.isEmpty) = !xs.isEmpty := fun r => by cases r <;> rfl
  cases r with
  | non => cases h; rfl
  | bl b => cases h; rfl
  | int i => cases h; rfl
  | str x =>
    have h' : (if x.length ≤ sizeLine then some ((x.length : Int) != 0) else none) = some k := h
    by_cases hz : x.length ≤ sizeLine
    · rw [if_pos hz] at h'
      cases h'
      exact ⟨hz, rfl⟩
    · rw [if_neg hz] at h'
      cases h'
  | tup hs rl =>
    have e : (!List.isEmpty _) = k := Option.some.inj h
    rw [em rl] at e
    exact .inr (.inl ⟨_, hs, e.symm⟩)
  | fro hs rl =>
    have e : (!List.isEmpty _) = k := Option.some.inj h
    rw [em rl] at e
    exact .inl ⟨_, hs.sql, e.symm⟩
  | ref ha =>
    obtain ⟨l, hl, e⟩ := Option.map_eq_some_iff.mp (show (listAt st _).map _ = some k from h)
    obtain ⟨xs, q, rl⟩ := s.list hl ha
    rw [em rl] at e
    exact .inl ⟨xs, .of q, e.symm⟩
  | glb _ => cases h
  | ty _ => cases h
  | exc0 _ _ _ => cases h
  | exc1 _ _ _ _ _ _ => cases h
theorem optAll_rep {f : D → Option PyData} (hf : ∀ d v p, f d = some p → Rep K mg ρ H d v → Dp K H v p) : ∀ {l : List D} {xs : List V} {ps : List PyData}, optAll f l = some ps → RepL K mg ρ H l xs → DpAll K H xs ps
  | [], _, _, h, .nil => by cases h; exact .nil
  | d :: l, _, ps, h, .cons r t => by
    unfold optAll at h
    split at h
    · rename_i a b h1 h2
      cases h
      exact .cons (hf d _ a h1 r) (optAll_rep hf h2 t)
    · cases h
theorem dat_ok (s : Sim K mg ρ st H) : ∀ (k : Nat) (d : D) (v : V) (p : PyData), dat st k d = some p → Rep K mg ρ H d v → Dp K H v p
  | 0, d, v, p, h, _ => by cases h
  | k + 1, d, v, p, h, r => by
    cases r with
    | non => cases h; exact .non
    | bl b => cases h; exact .bl b
    | int i => cases h; exact .int i
    | str x => cases h; exact .str x
    | tup hs rl =>
      obtain ⟨ps, h1, e⟩ := Option.map_eq_some_iff.mp (show (optAll (dat st k) _).map PyData.tuple = some p from h)
      subst e
      exact .tup hs (optAll_rep (dat_ok s k) h1 rl)
    | fro hs rl =>
      obtain ⟨ps, h1, e⟩ := Option.map_eq_some_iff.mp (show (optAll (dat st k) _).map PyData.list = some p from h)
      subst e
      exact .lst hs.sql (optAll_rep (dat_ok s k) h1 rl)
    | @ref n a ha =>
      have h' : (match listAt st n with | some l => (optAll (dat st k) l).map PyData.list | none => none) = some p := h
      split at h'
      · rename_i l hl
        obtain ⟨ps, h1, e⟩ := Option.map_eq_some_iff.mp h'
        subst e
        obtain ⟨xs, q, rl⟩ := s.list hl ha
        exact .lst (.of q) (optAll_rep (dat_ok s k) h1 rl)
      · cases h'
    | glb _ => cases h
    | ty _ => cases h
    | exc0 _ _ _ => cases h
    | exc1 _ _ _ _ _ _ => cases h

/-! ### two-place operations -/
/-- a result of value and store, wanted in the layer's words -/
def Res (K : PySem.W.Frag) (mg : Str → Option Value) (ρ : List Addr) (H : Hp) (o : Option (D × Store)) (Q : VK) : Prop :=
  ∃ d st', o = some (d, st') ∧ ∀ ρ' H', Sim K mg ρ' st' H' → Ext ρ H ρ' H' → ∀ v, Rep K mg ρ' H' d v → Q v H'
def r2 (K : PySem.W.Frag) (mg : Str → Option Value) (f : D → D → Store → Option (D × Store)) : R2 := fun x y H Q =>
  ∃ ρ st d e, Sim K mg ρ st H ∧ Rep K mg ρ H d x ∧ Rep K mg ρ H e y ∧ Res K mg ρ H (f d e st) Q
theorem Res.here {Q : VK} {d : D} {v : V} (h : Res K mg ρ H (some (d, st)) Q) (s : Sim K mg ρ st H) (r : Rep K mg ρ H d v) : Q v H := by
  obtain ⟨d', st', e, q⟩ := h
  cases e
  exact q ρ H s Ext.refl v r
theorem Res.new {Q : VK} {l : List D} {xs : List V} (h : Res K mg ρ H (alloc (.lst l) st) Q) (s : Sim K mg ρ st H) (r : RepL K mg ρ H l xs) {p : Addr} (hp : H p = none) : Q (.ref p) (upd H p (.lst xs)) := by
  obtain ⟨d', st', e, q⟩ := h
  cases e
  refine q (ρ ++ [p]) _ (sim_alloc s hp ⟨xs, upd_same, r.ext (ext_alloc hp)⟩) (ext_alloc hp) _ (.ref ?_)
  rw [← s.len]
  simp
theorem Res.none {Q : VK} (h : Res K mg ρ H none Q) : False := by
  obtain ⟨_, _, e, _⟩ := h
  cases e
theorem Res.if {Q : VK} {c : Prop} [Decidable c] {o : Option (D × Store)} (h : Res K mg ρ H (if c then o else Option.none) Q) : c ∧ Res K mg ρ H o Q := by
  by_cases hc : c
  · rw [if_pos hc] at h; exact ⟨hc, h⟩
  · rw [if_neg hc] at h; exact h.none.elim
end
section
variable {X : Cx}
theorem op_add2 : OpR X (binaryOp .Add) (r2 X.K X.mg addD) := by
  intro pins s σ H x y v u Q I rx ry h
  obtain ⟨ρ, st, d, e, hs, hd, he, h⟩ := h
  cases hd with
  | int i =>
    cases he with
    | int j => exact op_add pins s σ H _ _ v u Q I rx ry ⟨i, j, rfl, rfl, h.here hs (.int _)⟩
    | _ => exact h.none.elim
  | str a =>
    cases he with
    | str b =>
      obtain ⟨hz, h⟩ := Res.if h
      exact op_add_str pins s σ H _ _ v u Q I rx ry ⟨a, b, rfl, rfl, hz, h.here hs (.str _)⟩
    | _ => exact h.none.elim
  | @ref n p hp =>
    cases he with
    | @ref m q hq =>
      have h' : Res X.K X.mg ρ H (match listAt st n, listAt st m with | some a, some b => if a.length + b.length ≤ sizeLine then alloc (.lst (a ++ b)) st else none | _, _ => none) Q := h
      split at h'
      · rename_i a b h1 h2
        obtain ⟨hz, h'⟩ := Res.if h'
        obtain ⟨xs, e1, r1⟩ := hs.list h1 hp
        obtain ⟨ys, e2, r2⟩ := hs.list h2 hq
        exact op_cat pins s σ H _ _ v u Q I rx ry ⟨p, q, xs, ys, rfl, rfl, e1, e2, by rw [← r1.length, ← r2.length]; exact hz, fun p' hp' => h'.new hs (r1.append r2) hp'⟩
      · exact h'.none.elim
    | _ => exact h.none.elim
  | _ => cases he <;> exact h.none.elim
theorem op_sub2 : OpR X (binaryOp .Sub) (r2 X.K X.mg subD) := by
  intro pins s σ H x y v u Q I rx ry h
  obtain ⟨ρ, st, d, e, hs, hd, he, h⟩ := h
  cases hd with
  | int i =>
    cases he with
    | int j => exact op_sub pins s σ H _ _ v u Q I rx ry ⟨i, j, rfl, rfl, h.here hs (.int _)⟩
    | _ => exact h.none.elim
  | _ => cases he <;> exact h.none.elim
theorem repS_spec (a : Str) (k : Int) (h0 : 0 ≤ k) (h1 : a.length * k.toNat ≤ 2 ^ 20) (h2 : k < 2 ^ 20) {prog : Program} {w : World} {A : Around} {E : Value → Shared → Prop} {s : Shared} {t u : Tok} {Q : Value → Shared → Prop}
    (h : ∀ tk t', Q (.str (repS a k.toNat) tk) { s with toks := t' }) : wpAny (model prog w) A (binaryOp .Mult (.str a t) (.int k u)) Q E s := by
  have hs := sizeLine_eq
  by_cases hk : k < 1
  · have e : repS a k.toNat = Str.empty := by
      unfold repS
      rw [if_pos (by omega)]
    rw [e] at h
    exact P.mul_str_none hk (by omega) (h _ _)
  · have hz : (decide (k < -(2 ^ 63 : Int)) || decide (k ≥ 2 ^ 63)) = false := by
      rw [decide_eq_false (by omega), decide_eq_false (by omega)]
      rfl
    have hl : a.length ≤ 2 ^ 20 := by
      have : a.length * 1 ≤ a.length * k.toNat := Nat.mul_le_mul_left _ (by omega)
      omega
    refine P.mul_str hz (fun _ _ z => ?_) (fun _ _ => ?_) ?_
    · have hm : ((a.length : Nat) : Int) * k ≤ 2 ^ 63 - 1 := by
        have e1 : ((a.length * k.toNat : Nat) : Int) = (a.length : Int) * k := by
          rw [Int.natCast_mul, Int.toNat_of_nonneg h0]
        omega
      have h3 : ((a.length : Nat) : Int) ≤ (2 ^ 63 - 1) / k := (Int.le_ediv_iff_mul_le (by omega)).mpr hm
      omega
    · show decide (a.length * k.toNat > sizeLine) = false
      exact decide_eq_false (by omega)
    · rw [if_neg hk]
      have ek : (k == 1) = (k.toNat == 1) := by
        by_cases e : k = 1
        · subst e
          rfl
        · have e2 : k.toNat ≠ 1 := by omega
          rw [show (k == 1) = false by simpa using e, show (k.toNat == 1) = false by simpa using e2]
      unfold repS at h
      rw [if_neg (by omega)] at h
      by_cases hc : (k.toNat == 1 || a.length == 0) = true
      · rw [ek, if_pos hc]
        rw [if_pos hc] at h
        have h' := h t s.toks
        exact h'
      · rw [ek, if_neg hc]
        rw [if_neg hc] at h
        refine ⟨?_, h _ _⟩
        have : ∀ (n : Nat) (acc : Array Nat), ((List.replicate n a.cps).foldl (· ++ ·) acc).size = acc.size + n * a.cps.size := by
          intro n
          induction n with
          | zero => intro acc; simp
          | succ n ih =>
            intro acc
            rw [List.replicate_succ, List.foldl_cons, ih, Array.size_append, Nat.succ_mul]
            omega
        show ((List.replicate k.toNat a.cps).foldl (· ++ ·) #[]).size ≤ sizeLine
        rw [this]
        have e2 : a.length = a.cps.size := rfl
        rw [e2, Nat.mul_comm] at h1
        simp
        omega
theorem op_mul2 : OpR X (binaryOp .Mult) (r2 X.K X.mg mulD) := by
  intro pins s σ H x y v u Q I rx ry h
  obtain ⟨ρ, st, d, e, hs, hd, he, h⟩ := h
  cases hd with
  | int i =>
    cases he with
    | int j =>
      obtain ⟨hz, h⟩ := Res.if h
      refine op_mul pins s σ H _ _ v u Q I rx ry ⟨i, j, rfl, rfl, ?_, h.here hs (.int _)⟩
      unfold mulOk at hz
      rcases Bool.or_eq_true_iff.mp hz with z | z
      · exact .inl (of_decide_eq_true z)
      · exact .inr (of_decide_eq_true z)
    | _ => exact h.none.elim
  | str a =>
    cases he with
    | int k =>
      obtain ⟨⟨z0, z1, z2⟩, h⟩ := Res.if h
      obtain ⟨t, rfl⟩ := (show ∃ t, v = Value.str a t from rx)
      obtain ⟨t2, rfl⟩ := (show ∃ t, u = Value.int k t from ry)
      exact repS_spec a k z0 z1 z2 fun tk t' => ⟨.str _, H, I.tok _, ⟨_, rfl⟩, h.here hs (.str _)⟩
    | _ => exact h.none.elim
  | @ref n p hp =>
    cases he with
    | int k =>
      have h' : Res X.K X.mg ρ H (match listAt st n with | some a => if 0 ≤ k ∧ k < 2 ^ 62 ∧ a.length * k.toNat ≤ sizeLine then alloc (.lst (List.replicate k.toNat a).flatten) st else none | none => none) Q := h
      split at h'
      · rename_i a h1
        obtain ⟨⟨z0, z1, z2⟩, h'⟩ := Res.if h'
        obtain ⟨xs, e1, r1⟩ := hs.list h1 hp
        exact op_rep pins s σ H _ _ v u Q I rx ry ⟨p, k, xs, rfl, rfl, e1, by omega, by omega, by rw [← r1.length]; exact z2, fun p' hp' => h'.new hs (r1.rep _) hp'⟩
      · exact h'.none.elim
    | _ => exact h.none.elim
  | _ => cases he <;> exact h.none.elim
theorem op_fdiv2 : OpR X (binaryOp .FloorDiv) (r2 X.K X.mg fdivD) := by
  intro pins s σ H x y v u Q I rx ry h
  obtain ⟨ρ, st, d, e, hs, hd, he, h⟩ := h
  cases hd with
  | int i =>
    cases he with
    | int j =>
      obtain ⟨hz, h⟩ := Res.if h
      exact op_fdiv pins s σ H _ _ v u Q I rx ry ⟨i, j, rfl, rfl, hz, h.here hs (.int _)⟩
    | _ => exact h.none.elim
  | _ => cases he <;> exact h.none.elim
theorem op_mod2 : OpR X (binaryOp .Mod) (r2 X.K X.mg modD) := by
  intro pins s σ H x y v u Q I rx ry h
  obtain ⟨ρ, st, d, e, hs, hd, he, h⟩ := h
  cases hd with
  | int i =>
    cases he with
    | int j =>
      obtain ⟨hz, h⟩ := Res.if h
      exact op_mod pins s σ H _ _ v u Q I rx ry ⟨i, j, rfl, rfl, hz, h.here hs (.int _)⟩
    | _ => exact h.none.elim
  | _ => cases he <;> exact h.none.elim
theorem op_powG : OpR X (binaryOp .Pow) (rI (fun i j => 0 ≤ j ∧ (Builtin.Int.intBits i : Int) * j ≤ 2 ^ 27) fun i j => .int (i ^ j.toNat)) := opI fun _ _ _ _ _ _ _ hc q => pow_int hc.1 hc.2 q
theorem op_pow2 : OpR X (binaryOp .Pow) (r2 X.K X.mg powD) := by
  intro pins s σ H x y v u Q I rx ry h
  obtain ⟨ρ, st, d, e, hs, hd, he, h⟩ := h
  cases hd with
  | int i =>
    cases he with
    | int j =>
      obtain ⟨hz, h⟩ := Res.if h
      unfold powOk at hz
      obtain ⟨z1, z2⟩ := Bool.and_eq_true_iff.mp hz
      exact op_powG pins s σ H _ _ v u Q I rx ry ⟨i, j, rfl, rfl, ⟨of_decide_eq_true z1, of_decide_eq_true z2⟩, h.here hs (.int _)⟩
    | _ => exact h.none.elim
  | _ => cases he <;> exact h.none.elim
theorem op_bin (op : Operator) : OpR X (binaryOp op) (r2 X.K X.mg (binop op)) := by
  cases op with
  | Add => exact op_add2
  | Sub => exact op_sub2
  | Mult => exact op_mul2
  | FloorDiv => exact op_fdiv2
  | Mod => exact op_mod2
  | Pow => exact op_pow2
  | _ => exact fun pins s σ H x y v u Q I rx ry ⟨_, _, _, _, _, _, _, h⟩ => h.none.elim

/-! ### comparisons -/
def rC (K : PySem.W.Frag) (mg : Str → Option Value) (f : D → D → Store → Option Bool) : R2 := fun x y H Q =>
  ∃ ρ st d e k, Sim K mg ρ st H ∧ Rep K mg ρ H d x ∧ Rep K mg ρ H e y ∧ f d e st = some k ∧ Q (.bl k) H
theorem op_cmpI {op : CmpOp} {f : Int → Int → Bool} (ho : OpR X (compareOp op) (rI0 fun i j => .bl (f i j))) : OpR X (compareOp op) (rC X.K X.mg fun x y _ => cmpI f x y) := by
  intro pins s σ H x y v u Q I rx ry h
  obtain ⟨ρ, st, d, e, k, hs, hd, he, h, q⟩ := h
  cases hd with
  | int i =>
    cases he with
    | int j =>
      cases h
      exact ho pins s σ H _ _ v u Q I rx ry ⟨i, j, rfl, rfl, q⟩
    | _ => cases h
  | _ => cases he <;> cases h
theorem eqG_some {ρ : List Addr} {st : Store} {H : Hp} {d e : D} {k : Bool} (h : eqG st d e = some k) : ∃ a b, dat st 60 d = some a ∧ dat st 60 e = some b ∧ SeqAt.shaped a = true ∧ SeqAt.shaped b = true ∧ k = PyData.eqv a b := by
  unfold eqG at h
  split at h
  · rename_i a b h1 h2
    split at h
    · rename_i hz
      cases h
      obtain ⟨z1, z2⟩ := Bool.and_eq_true_iff.mp hz
      exact ⟨a, b, h1, h2, z1, z2, rfl⟩
    · cases h
  · cases h
theorem op_eq2 (hu : X.A.units + 64 < cLine) : OpR X (compareOp .Eq) (rC X.K X.mg fun x y st => eqD st x y) := by
  intro pins s σ H x y v u Q I rx ry h
  obtain ⟨ρ, st, d, e, k, hs, hd, he, h, q⟩ := h
  have gen : eqG st d e = some k → wpAny (model X.prog X.w) X.A (compareOp .Eq v u) (EP X pins σ Q) X.xe s := fun h => by
    obtain ⟨a, b, h1, h2, z1, z2, rfl⟩ := eqG_some (ρ := ρ) (H := H) h
    exact op_eqD hu pins s σ H x y v u Q I rx ry ⟨a, b, dat_ok hs _ _ _ _ h1 hd, dat_ok hs _ _ _ _ h2 he, z1, z2, q⟩
  cases hd with
  | str a =>
    cases he with
    | str b =>
      cases h
      refine op_eq pins s σ H _ _ v u Q I rx ry ⟨rfl, ?_⟩
      have e1 : decide (V.str a = V.str b) = decide (a = b) := by simp
      rw [e1]
      exact q
    | _ => exact gen h
  | _ => exact gen h
theorem op_ne2 (hu : X.A.units + 64 < cLine) : OpR X (compareOp .NotEq) (rC X.K X.mg fun x y st => (eqD st x y).map (!·)) := by
  intro pins s σ H x y v u Q I rx ry h
  obtain ⟨ρ, st, d, e, k, hs, hd, he, h, q⟩ := h
  obtain ⟨k', h', ek⟩ := Option.map_eq_some_iff.mp (show (eqD st d e).map (!·) = some k from h)
  subst ek
  have gen : eqG st d e = some k' → wpAny (model X.prog X.w) X.A (compareOp .NotEq v u) (EP X pins σ Q) X.xe s := fun h => by
    obtain ⟨a, b, h1, h2, z1, z2, rfl⟩ := eqG_some (ρ := ρ) (H := H) h
    exact op_neD hu pins s σ H x y v u Q I rx ry ⟨a, b, dat_ok hs _ _ _ _ h1 hd, dat_ok hs _ _ _ _ h2 he, z1, z2, q⟩
  cases hd with
  | str a =>
    cases he with
    | str b =>
      cases h'
      refine op_ne pins s σ H _ _ v u Q I rx ry ⟨rfl, ?_⟩
      have e1 : decide (V.str a = V.str b) = decide (a = b) := by simp
      rw [e1]
      exact q
    | _ => exact gen h'
  | _ => exact gen h'
theorem isNon_rep {K : PySem.W.Frag} {mg : Str → Option Value} {ρ : List Addr} {H : Hp} {d : D} {v : V} (r : Rep K mg ρ H d v) : isNon d = decide (v = .non) := by
  cases r <;> simp [isNon]
theorem op_is2 : OpR X (compareOp .Is) (rC X.K X.mg fun x y _ => if isNon y then some (isNon x) else none) := by
  intro pins s σ H x y v u Q I rx ry h
  obtain ⟨ρ, st, d, e, k, hs, hd, he, h, q⟩ := h
  have h' : (if isNon e = true then some (isNon d) else none) = some k := h
  split at h'
  · rename_i hn
    cases h'
    rw [isNon_rep he] at hn
    rw [isNon_rep hd] at q
    exact op_isN pins s σ H x y v u Q I rx ry ⟨of_decide_eq_true hn, q⟩
  · cases h'
theorem op_isnot2 : OpR X (compareOp .IsNot) (rC X.K X.mg fun x y _ => if isNon y then some (!isNon x) else none) := by
  intro pins s σ H x y v u Q I rx ry h
  obtain ⟨ρ, st, d, e, k, hs, hd, he, h, q⟩ := h
  have h' : (if isNon e = true then some (!isNon d) else none) = some k := h
  split at h'
  · rename_i hn
    cases h'
    rw [isNon_rep he] at hn
    rw [isNon_rep hd] at q
    exact op_notN pins s σ H x y v u Q I rx ry ⟨of_decide_eq_true hn, q⟩
  · cases h'
theorem room_in_sh {A : Around} {d : PyData} {ds : List PyData} (sd : SeqAt.shaped d = true) (hu : A.units + 65 < cLine) : A.units + 1 + min (PyData.depthAll ds) d.depth < cLine := by
  have h1 := SeqAt.depth_of_shaped sd
  have h2 : min (PyData.depthAll ds) d.depth ≤ d.depth := Nat.min_le_right _ _
  omega
theorem op_in2 (hu : X.A.units + 65 < cLine) : OpR X (compareOp .In) (rC X.K X.mg fun x y st => inD st x y) := by
  intro pins s σ H x y v u Q I rx ry h
  obtain ⟨ρ, st, d, e, k, hs, hd, he, h, q⟩ := h
  have rest : (match dat st 60 d, dat st 60 e with
    | some a, some (.list b) => if SeqAt.shaped a && SeqAt.shaped (.list b) then some (anyD a b) else none
    | some a, some (.tuple b) => if SeqAt.shaped a && SeqAt.shaped (.list b) then some (anyD a b) else none
    | _, _ => none) = some k → wpAny (model X.prog X.w) X.A (compareOp .In v u) (EP X pins σ Q) X.xe s := fun h' => by
    split at h'
    · rename_i a b h1 h2
      split at h'
      · rename_i hz
        cases h'
        obtain ⟨z1, z2⟩ := Bool.and_eq_true_iff.mp hz
        obtain ⟨as, r1⟩ := Dp.reads I a x v (dat_ok hs _ _ _ _ h1 hd) rx
        obtain ⟨bs, r2⟩ := Dp.reads I (.list b) y u (dat_ok hs _ _ _ _ h2 he) ry
        exact SeqAt.in_list_reads r2 r1 (SeqAt.canLay_of_shaped z2) (SeqAt.canLay_of_shaped z1) (room_in_sh z1 hu) ⟨.bl _, H, I, rfl, q⟩
      · cases h'
    · rename_i a b h1 h2
      split at h'
      · rename_i hz
        cases h'
        obtain ⟨z1, z2⟩ := Bool.and_eq_true_iff.mp hz
        obtain ⟨as, r1⟩ := Dp.reads I a x v (dat_ok hs _ _ _ _ h1 hd) rx
        obtain ⟨bs, r2⟩ := Dp.reads I (.tuple b) y u (dat_ok hs _ _ _ _ h2 he) ry
        exact SeqAt.in_tuple_reads r2 r1 (SeqAt.canLay_of_shaped z2) (SeqAt.canLay_of_shaped z1) (room_in_sh z1 hu) ⟨.bl _, H, I, rfl, q⟩
      · cases h'
    · cases h'
  cases he with
  | str t =>
    cases hd with
    | str z =>
      cases h
      exact op_in_str pins s σ H _ _ v u Q I rx ry ⟨z, t, rfl, rfl, q⟩
    | _ => cases h
  | _ => exact rest h
theorem op_notin2 (hu : X.A.units + 65 < cLine) : OpR X (compareOp .NotIn) (rC X.K X.mg fun x y st => (inD st x y).map (!·)) := by
  intro pins s σ H x y v u Q I rx ry h
  obtain ⟨ρ, st, d, e, k', hs, hd, he, h0, q⟩ := h
  obtain ⟨k, h, ek⟩ := Option.map_eq_some_iff.mp (show (inD st d e).map (!·) = some k' from h0)
  subst ek
  have rest : (match dat st 60 d, dat st 60 e with
    | some a, some (.list b) => if SeqAt.shaped a && SeqAt.shaped (.list b) then some (anyD a b) else none
    | some a, some (.tuple b) => if SeqAt.shaped a && SeqAt.shaped (.list b) then some (anyD a b) else none
    | _, _ => none) = some k → wpAny (model X.prog X.w) X.A (compareOp .NotIn v u) (EP X pins σ Q) X.xe s := fun h' => by
    split at h'
    · rename_i a b h1 h2
      split at h'
      · rename_i hz
        cases h'
        obtain ⟨z1, z2⟩ := Bool.and_eq_true_iff.mp hz
        obtain ⟨as, r1⟩ := Dp.reads I a x v (dat_ok hs _ _ _ _ h1 hd) rx
        obtain ⟨bs, r2⟩ := Dp.reads I (.list b) y u (dat_ok hs _ _ _ _ h2 he) ry
        exact SeqAt.notIn_list_reads r2 r1 (SeqAt.canLay_of_shaped z2) (SeqAt.canLay_of_shaped z1) (room_in_sh z1 hu) ⟨.bl _, H, I, rfl, q⟩
      · cases h'
    · rename_i a b h1 h2
      split at h'
      · rename_i hz
        cases h'
        obtain ⟨z1, z2⟩ := Bool.and_eq_true_iff.mp hz
        obtain ⟨as, r1⟩ := Dp.reads I a x v (dat_ok hs _ _ _ _ h1 hd) rx
        obtain ⟨bs, r2⟩ := Dp.reads I (.tuple b) y u (dat_ok hs _ _ _ _ h2 he) ry
        exact SeqAt.notIn_tuple_reads r2 r1 (SeqAt.canLay_of_shaped z2) (SeqAt.canLay_of_shaped z1) (room_in_sh z1 hu) ⟨.bl _, H, I, rfl, q⟩
      · cases h'
    · cases h'
  cases he with
  | str t =>
    cases hd with
    | str z =>
      cases h
      exact op_notin_str pins s σ H _ _ v u Q I rx ry ⟨z, t, rfl, rfl, q⟩
    | _ => cases h
  | _ => exact rest h
theorem op_cmp (hu : X.A.units + 65 < cLine) (op : CmpOp) : OpR X (compareOp op) (rC X.K X.mg (cmpop op)) := by
  cases op with
  | Eq => exact op_eq2 (by omega)
  | NotEq => exact op_ne2 (by omega)
  | Lt => exact op_cmpI op_lt
  | LtE => exact op_cmpI op_le
  | Gt => exact op_cmpI op_gt
  | GtE => exact op_cmpI op_ge
  | Is => exact op_is2
  | IsNot => exact op_isnot2
  | In => exact op_in2 hu
  | NotIn => exact op_notin2 hu

/-! ### items -/
def rIx2 (K : PySem.W.Frag) (mg : Str → Option Value) : R2 := fun x y H Q =>
  ∃ ρ st d e a, Sim K mg ρ st H ∧ Rep K mg ρ H d x ∧ Rep K mg ρ H e y ∧ atD d e st = some a ∧ ∀ v, Rep K mg ρ H a v → Q v H
theorem atI_rep {K : PySem.W.Frag} {mg : Str → Option Value} {ρ : List Addr} {H : Hp} {l : List D} {xs : List V} {i : Int} {d : D} (r : RepL K mg ρ H l xs) (h : atI l i = some d) : ∃ v, atI xs i = some v ∧ Rep K mg ρ H d v := by
  unfold atI at h ⊢
  obtain ⟨j, h1, h2⟩ := Option.bind_eq_some_iff.mp h
  obtain ⟨v, e, rv⟩ := r.get h2
  exact ⟨v, by rw [← r.length, h1]; exact e, rv⟩
theorem ix_ok : IxR X (rIx2 X.K X.mg) := by
  intro value slice pins s σ H x y v u Q I rx ry h hsub
  obtain ⟨ρ, st, d, e, a, hs, hd, he, h, q⟩ := h
  cases he with
  | int i =>
    cases hd with
    | str z =>
      have h' : (if z.length ≤ sizeLine then (atI z.cps.toList i).map fun c => D.str ⟨#[c]⟩ else none) = some a := h
      by_cases hz : z.length ≤ sizeLine
      · rw [if_pos hz] at h'
        obtain ⟨c, h1, e1⟩ := Option.map_eq_some_iff.mp h'
        subst e1
        exact ix_str value slice pins s σ H _ _ v u Q I rx ry ⟨z, i, c, rfl, rfl, hz, h1, q _ (.str _)⟩ hsub
      · rw [if_neg hz] at h'
        cases h'
    | tup hq rl =>
      obtain ⟨w', e1, r1⟩ := atI_rep rl (show atI _ i = some a from h)
      exact ix_tup value slice pins s σ H _ _ v u Q I rx ry ⟨_, _, i, w', rfl, rfl, hq, e1, q _ r1⟩ hsub
    | fro hq rl =>
      obtain ⟨w', e1, r1⟩ := atI_rep rl (show atI _ i = some a from h)
      exact ix_list value slice pins s σ H _ _ v u Q I rx ry ⟨_, _, i, w', rfl, rfl, hq.sql, e1, q _ r1⟩ hsub
    | ref ha =>
      obtain ⟨l, h1, h2⟩ := Option.bind_eq_some_iff.mp (show (listAt st _).bind _ = some a from h)
      obtain ⟨xs, e0, rl⟩ := hs.list h1 ha
      obtain ⟨w', e1, r1⟩ := atI_rep rl h2
      exact ix_list value slice pins s σ H _ _ v u Q I rx ry ⟨_, _, i, w', rfl, rfl, .of e0, e1, q _ r1⟩ hsub
    | _ => cases h
  | _ => cases hd <;> cases h
/-- o[i] = v -/
def rSet2 (K : PySem.W.Frag) (mg : Str → Option Value) : TSet := fun o i v H Q =>
  ∃ ρ st d e a st', Sim K mg ρ st H ∧ Rep K mg ρ H d o ∧ Rep K mg ρ H e i ∧ Rep K mg ρ H a v ∧ setItemD d e a st = some st' ∧ ∀ ρ' H', Sim K mg ρ' st' H' → Ext ρ H ρ' H' → Q H'
theorem set_ok : PSet X (rSet2 X.K X.mg) := by
  intro pins s σ H o i v ov iv u Q I ro ri rv h
  obtain ⟨ρ, st, d, e, a, st', hs, hd, he, ha, h, q⟩ := h
  cases hd with
  | @ref n p hp =>
    cases he with
    | int k =>
      have h' : (match st[n]? with | some (.lst l) => (match ixN l.length k with | some j => some (st.set n (.lst (l.set j a))) | none => none) | _ => none) = some st' := h
      split at h'
      · rename_i l hl
        split at h'
        · rename_i j hj
          cases h'
          obtain ⟨xs, e0, rl⟩ := hs.obj n p _ hp hl
          refine set_list pins s σ H _ _ v ov iv u Q I ro ri rv ⟨p, xs, k, j, rfl, rfl, e0, by rw [← rl.length]; exact hj, ?_⟩
          have ex := ext_set (o := .lst (xs.set j v)) hs hp
          exact q ρ _ (sim_set hs hp ⟨_, upd_same, (rl.set ha j).ext ex⟩) ex
        · cases h'
      · cases h'
    | _ => cases h
  | _ => cases he <;> cases h

/-! ### built-in functions -/
def rFn (K : PySem.W.Frag) (mg : Str → Option Value) (f : List D → Store → Option (D × Store)) : List V → Hp → VK → Prop := fun xs H Q =>
  ∃ ρ st ds, Sim K mg ρ st H ∧ RepL K mg ρ H ds xs ∧ Res K mg ρ H (f ds st) Q
theorem fn_len : CallR X (.builtin "len") (rFn X.K X.mg lenD) := by
  intro pins s σ H xs us Q I r h
  obtain ⟨ρ, st, ds, hs, hd, h⟩ := h
  have seq : ∀ {d : D} {v : V}, ds = [d] → xs = [v] → Rep X.K X.mg ρ H d v → Res X.K X.mg ρ H ((seqL st d).map fun l => (.int l.length, st)) Q → wpAny (model X.prog X.w) X.A (call (.builtin "len") us) (EP X pins σ Q) X.xe s := fun {d v} e1 e2 rd h => by
    cases q : seqL st d with
    | none => rw [q] at h; exact h.none.elim
    | some l =>
      rw [q] at h
      obtain ⟨a, ys, ev, hq, rl⟩ := seqL_ok hs q rd
      subst ev
      have := h.here hs (v := .int l.length) (.int _)
      exact call_len_seq pins s σ H xs us Q I r ⟨a, ys, e2, .inl hq, by rw [← rl.length]; exact this⟩
  cases hd with
  | nil => exact h.none.elim
  | cons h1 h2 =>
    cases h2 with
    | cons _ _ =>
      cases h1 <;> exact h.none.elim
    | nil =>
      cases h1 with
      | str z =>
        obtain ⟨hz, h⟩ := Res.if h
        exact call_len_str pins s σ H _ us Q I r ⟨z, rfl, hz, h.here hs (.int _)⟩
      | tup hq rl => exact call_len_seq pins s σ H _ us Q I r ⟨_, _, rfl, .inr hq, by rw [← rl.length]; exact Res.here h hs (.int _)⟩
      | ref ha => exact seq rfl rfl (.ref ha) h
      | fro a b => exact seq rfl rfl (.fro a b) h
      | _ => exact h.none.elim
theorem fn_abs : CallR X (.builtin "abs") (rFn X.K X.mg absD) := by
  intro pins s σ H xs us Q I r h
  obtain ⟨ρ, st, ds, hs, hd, h⟩ := h
  cases hd with
  | nil => exact h.none.elim
  | cons h1 h2 =>
    cases h2 with
    | cons _ _ => cases h1 <;> exact h.none.elim
    | nil =>
      cases h1 with
      | int i => exact call_abs pins s σ H _ us Q I r ⟨i, rfl, h.here hs (.int _)⟩
      | _ => exact h.none.elim
theorem fn_max (hc : X.calm = true) : CallR X (.builtin "max") (rFn X.K X.mg maxD) := by
  intro pins s σ H xs us Q I r h
  obtain ⟨ρ, st, ds, hs, hd, h⟩ := h
  match hd, h with
  | .nil, h => exact h.none.elim
  | .cons h1 .nil, h => cases h1 <;> exact h.none.elim
  | .cons h1 (.cons h2 (.cons _ _)), h => cases h1 <;> cases h2 <;> exact h.none.elim
  | .cons h1 (.cons h2 .nil), h =>
    cases h1 with
    | int i =>
      cases h2 with
      | int j => exact call_max2 hc pins s σ H _ us Q I r ⟨i, j, rfl, h.here hs (.int _)⟩
      | _ => exact h.none.elim
    | _ => cases h2 <;> exact h.none.elim
theorem fn_min (hc : X.calm = true) : CallR X (.builtin "min") (rFn X.K X.mg minD) := by
  intro pins s σ H xs us Q I r h
  obtain ⟨ρ, st, ds, hs, hd, h⟩ := h
  match hd, h with
  | .nil, h => exact h.none.elim
  | .cons h1 .nil, h => cases h1 <;> exact h.none.elim
  | .cons h1 (.cons h2 (.cons _ _)), h => cases h1 <;> cases h2 <;> exact h.none.elim
  | .cons h1 (.cons h2 .nil), h =>
    cases h1 with
    | int i =>
      cases h2 with
      | int j => exact call_min2 hc pins s σ H _ us Q I r ⟨i, j, rfl, h.here hs (.int _)⟩
      | _ => exact h.none.elim
    | _ => cases h2 <;> exact h.none.elim
theorem cl_int : CallR X (.type "int") (rFn X.K X.mg intD) := by
  intro pins s σ H xs us Q I r h
  obtain ⟨ρ, st, ds, hs, hd, h⟩ := h
  cases hd with
  | nil => exact h.none.elim
  | cons h1 h2 =>
    cases h2 with
    | cons _ _ => cases h1 <;> exact h.none.elim
    | nil =>
      cases h1 with
      | int i => exact call_int1 pins s σ H _ us Q I r (.inl ⟨i, rfl, h.here hs (.int _)⟩)
      | bl b => exact call_int1 pins s σ H _ us Q I r (.inr ⟨b, rfl, h.here hs (.int _)⟩)
      | _ => exact h.none.elim
end
end Nd
end

section
set_option Elab.async false
set_option linter.all false
set_option maxRecDepth 100000
set_option maxHeartbeats 1000000
/-! NdI: what is shown, classes asked, slices, attributes. -/
namespace Nd
open PySem PySem.Spec PyProof.Rows L2

/-! ### data by what it reads -/
mutual
theorem flat_reads {h : Heap} : ∀ {p : PyData} {u : Value} {as : List Addr}, Reads h u p as → flatP p = true → as = []
  | _, _, _, .none, _ => rfl
  | _, _, _, .bool _, _ => rfl
  | _, _, _, .int _ _, _ => rfl
  | _, _, _, .str _ _, _ => rfl
  | _, _, _, .list _ _ _ _, f => by simp [flatP] at f
  | _, _, _, .tuple _ _ _ r, f => flat_readsAll r (by simpa [flatP] using f)
  | _, _, _, .dict _ _ _ _ _, f => by simp [flatP] at f
theorem flat_readsAll {h : Heap} : ∀ {ps : List PyData} {us : List Value} {as : List Addr}, ReadsAll h us ps as → flatPs ps = true → as = []
  | _, _, _, .nil, _ => rfl
  | _, _, _, .cons (d := d) (ds := ds) r rs, f => by
    have f' : flatP d = true ∧ flatPs ds = true := by simpa [flatPs] using f
    rw [flat_reads r f'.1, flat_readsAll rs f'.2]
    rfl
end
theorem optAll_noDict {f : D → Option PyData} (hf : ∀ d p, f d = some p → p.hasDict = false) : ∀ {l : List D} {ps : List PyData}, optAll f l = some ps → PyData.hasDictAll ps = false
  | [], ps, h => by cases h; simp [PyData.hasDictAll]
  | d :: l, ps, h => by
    unfold optAll at h
    split at h
    · rename_i a b h1 h2
      cases h
      simp [PyData.hasDictAll, hf d a h1, optAll_noDict hf h2]
    · cases h
theorem dat_noDict {st : Store} : ∀ (k : Nat) (d : D) (p : PyData), dat st k d = some p → p.hasDict = false
  | 0, d, p, h => by cases h
  | k + 1, d, p, h => by
    cases d with
    | non => cases h; simp [PyData.hasDict]
    | bl b => cases h; simp [PyData.hasDict]
    | int i => cases h; simp [PyData.hasDict]
    | str x => cases h; simp [PyData.hasDict]
    | tup l =>
      obtain ⟨ps, h1, e⟩ := Option.map_eq_some_iff.mp (show (optAll (dat st k) l).map PyData.tuple = some p from h)
      subst e
      simpa [PyData.hasDict] using optAll_noDict (dat_noDict k) h1
    | fro l =>
      obtain ⟨ps, h1, e⟩ := Option.map_eq_some_iff.mp (show (optAll (dat st k) l).map PyData.list = some p from h)
      subst e
      simpa [PyData.hasDict] using optAll_noDict (dat_noDict k) h1
    | ref n =>
      have h' : (match listAt st n with | some l => (optAll (dat st k) l).map PyData.list | none => none) = some p := h
      split at h'
      · obtain ⟨ps, h1, e⟩ := Option.map_eq_some_iff.mp h'
        subst e
        simpa [PyData.hasDict] using optAll_noDict (dat_noDict k) h1
      · cases h'
    | glb _ => cases h
    | ty _ => cases h
    | exc _ _ => cases h
section
variable {X : Cx} {pins : List (Addr × Obj)} {σ : L2.St} {H : Hp} {s : Shared} {ρ : List Addr} {st : Store}
/-- data that may be shown -/
def RdOk (h : Heap) (u : Value) (p : PyData) : Prop := ∃ as, Reads h u p as ∧ (p.hasDict = true → sysModules ∉ as)
theorem dat_rd (I : Inv X pins σ H s) (hs : Sim X.K X.mg ρ st H) {k : Nat} {d : D} {v : V} {u : Value} {p : PyData} (h : dat st k d = some p) (r : Rep X.K X.mg ρ H d v) (ru : RelV v u) : RdOk s.heap u p := by
  obtain ⟨as, q⟩ := Dp.reads I p v u (dat_ok hs _ _ _ _ h r) ru
  exact ⟨as, q, PyData.noDict_hsm (dat_noDict _ _ _ h)⟩
theorem shwD_vals (I : Inv X pins σ H s) (hs : Sim X.K X.mg ρ st H) : ∀ {l : List (L2.Key × D)} {kvs : List (L2.Key × V)} {vs : List (L2.Key × Value)} {ps : List (PyData × PyData)}, optAll (fun kv => (shwV st kv.2).map fun p => (keyP kv.1, p)) l = some ps →
    kvs.map (·.1) = l.map (·.1) → RepL X.K X.mg ρ H (l.map (·.2)) (kvs.map (·.2)) → KV kvs vs → ps.map (·.1) = vs.map (fun kv => keyP kv.1) ∧ ReadsAll s.heap (vs.map (·.2)) (ps.map (·.2)) []
  | [], kvs, vs, ps, h, e, r, q => by
    cases h
    cases kvs with
    | nil =>
      cases q
      exact ⟨rfl, .nil⟩
    | cons _ _ => cases e
  | kv :: l, kvs, vs, ps, h, e, r, q => by
    cases kvs with
    | nil => cases e
    | cons kw kvs =>
      cases q with
      | @cons _ vw _ vs q1 q2 =>
        unfold optAll at h
        split at h
        · rename_i a b h1 h2
          cases h
          obtain ⟨p, h3, e3⟩ := Option.map_eq_some_iff.mp h1
          subst e3
          have e' : kw.1 = kv.1 ∧ kvs.map (·.1) = l.map (·.1) := by simpa using e
          cases r with
          | cons r1 r2 =>
            obtain ⟨i1, i2⟩ := shwD_vals I hs h2 e'.2 r2 q2
            unfold shwV at h3
            split at h3
            · rename_i p' h4
              split at h3
              · rename_i hf
                cases h3
                obtain ⟨as, rd, _⟩ := dat_rd I hs h4 r1 q1.2
                have ea := flat_reads rd hf
                subst ea
                refine ⟨?_, .cons rd i2⟩
                show keyP kv.1 :: b.map (·.1) = keyP vw.1 :: vs.map (fun kv => keyP kv.1)
                rw [i1, ← q1.1, e'.1]
              · cases h3
            · cases h3
        · cases h
theorem keys_read {P : Program} {w : World} {h : Heap} : ∀ {es : List DictEntry} {vs : List (L2.Key × Value)}, Pairs (mixKind P w) es vs → ReadsAll h (es.map (·.key)) (vs.map fun kv => keyP kv.1) [] ∧ es.map (·.val) = vs.map (·.2)
  | [], _, .nil => ⟨.nil, rfl⟩
  | e :: es, _, .cons (kv := kv) hk hv q => by
    obtain ⟨i1, i2⟩ := keys_read (h := h) q
    refine ⟨?_, by rw [List.map_cons, List.map_cons, hv, i2]⟩
    have hr : Reads h e.key (keyP kv.1) [] := by
      rcases keyIs_shape (show keyIs kv.1 e.key = true from hk) with ⟨i, t, e1, e2⟩ | ⟨x, t, e1, e2⟩
      · rw [e1, e2]; exact .int i t
      · rw [e1, e2]; exact .str x t
    exact .cons hr i1
theorem shwD_ok (I : Inv X pins σ H s) (hs : Sim X.K X.mg ρ st H) {n : Nat} {a : Addr} {l : List (L2.Key × D)} {p : PyData} (hn : st[n]? = some (.dct l)) (ha : ρ[n]? = some a) (h : shwD st l = some p) : RdOk s.heap (.ref a) p := by
  obtain ⟨kvs, e, ek, r⟩ := (show ObR X.K X.mg ρ H a (.dct l) from hs.obj n a _ ha hn)
  obtain ⟨_, hsm, vs, rel, o, es, ep, ho, hx, hd, _, pr, _⟩ := dk_of I.hok e
  obtain ⟨ps, h1, ep⟩ := Option.map_eq_some_iff.mp h
  subst ep
  obtain ⟨e1, r1⟩ := shwD_vals I hs h1 ek r rel
  obtain ⟨r2, e2⟩ := keys_read (h := s.heap) pr
  refine ⟨a :: [] ++ [], .dict ho hx.1 hd ?_ ?_, fun _ z => ?_⟩
  · rw [e1]; exact r2
  · rw [e2]; exact r1
  · have : sysModules = a := by simpa using z
    rw [← this] at hsm
    simp at hsm
theorem shwE_ok (I : Inv X pins σ H s) (hs : Sim X.K X.mg ρ st H) {d : D} {v : V} {u : Value} {p : PyData} (h : shwE st d = some p) (r : Rep X.K X.mg ρ H d v) (ru : RelV v u) : RdOk s.heap u p := by
  cases d with
  | ref n =>
    have h' : (match st[n]? with | some (.dct l) => shwD st l | _ => dat st 60 (.ref n)) = some p := h
    split at h'
    · rename_i l hn
      cases r with
      | ref ha =>
        cases ru
        exact shwD_ok I hs hn ha h'
    · exact dat_rd I hs h' r ru
  | _ =>
    refine dat_rd (k := 60) I hs ?_ r ru
    exact h
theorem rd_repr {prog : Program} {w : World} {h : Heap} {u : Value} {p : PyData} (r : RdOk h u p) (hs : p.showable = true) (hz : p.shown.length ≤ sizeLine) : ∃ bs, ReadAtMost h p.depth bs ∧ ReprK prog w bs h p.depth u p.shown := by
  obtain ⟨as, q, hsm⟩ := r
  exact ReprK.of_reads q hs hsm hz
inductive RdAll (h : Heap) : List Value → List PyData → Prop
  | nil : RdAll h [] []
  | cons {u : Value} {us : List Value} {p : PyData} {ps : List PyData} : RdOk h u p → RdAll h us ps → RdAll h (u :: us) (p :: ps)
theorem RdAll.reads {h : Heap} : ∀ {us : List Value} {ps : List PyData}, RdAll h us ps → ∃ as, ReadsAll h us ps as
  | _, _, .nil => ⟨_, .nil⟩
  | _, _, .cons ⟨as, q, _⟩ rs => by
    obtain ⟨bs, q2⟩ := rs.reads
    exact ⟨_, .cons q q2⟩
theorem RdAll.repr {prog : Program} {w : World} {h : Heap} : ∀ {us : List Value} {ps : List PyData}, RdAll h us ps → PyData.showableAll ps = true → (∀ t ∈ PyData.shownAll ps, t.length ≤ sizeLine) →
    ∃ bs, ReadAtMost h (PyData.depthAll ps) bs ∧ ReprAllK prog w bs h (PyData.depthAll ps) us (PyData.shownAll ps)
  | _, _, .nil, _, _ => ⟨[], (fun _ h => nomatch h), by simp only [PyData.shownAll]; exact .nil⟩
  | _, _, .cons (p := p) (ps := ps) r rs, hs, hz => by
    have hs' : p.showable = true ∧ PyData.showableAll ps = true := by simpa [PyData.showableAll] using hs
    obtain ⟨b1, hb1, k1⟩ := rd_repr (prog := prog) (w := w) r hs'.1 (hz _ (by simp only [PyData.shownAll]; exact List.mem_cons_self ..))
    obtain ⟨b2, hb2, k2⟩ := rs.repr (prog := prog) (w := w) hs'.2 fun t ht => hz t (by simp only [PyData.shownAll]; exact List.mem_cons_of_mem _ ht)
    refine ⟨b1 ++ b2, fun b hm => ?_, ?_⟩
    · simp only [PyData.depthAll]
      rcases List.mem_append.mp hm with hm | hm
      · obtain ⟨d', as', r', hd'⟩ := hb1 b hm
        exact ⟨d', as', r', Nat.le_trans hd' (Nat.le_max_left _ _)⟩
      · obtain ⟨d', as', r', hd'⟩ := hb2 b hm
        exact ⟨d', as', r', Nat.le_trans hd' (Nat.le_max_right _ _)⟩
    · simp only [PyData.depthAll, PyData.shownAll]
      exact .cons ((k1.more fun b hb => List.mem_append_left _ hb).level_le (Nat.le_max_left _ _)) (k2.more_le (fun b hb => List.mem_append_right _ hb) (Nat.le_max_right _ _))
theorem shwEs_ok (I : Inv X pins σ H s) (hs : Sim X.K X.mg ρ st H) : ∀ {l : List D} {vs : List V} {us : List Value} {ps : List PyData}, optAll (shwE st) l = some ps → RepL X.K X.mg ρ H l vs → Vals vs us → RdAll s.heap us ps
  | [], _, _, _, h, .nil, .nil => by cases h; exact .nil
  | d :: l, _, _, _, h, .cons r1 r2, .cons q1 q2 => by
    unfold optAll at h
    split at h
    · rename_i a b h1 h2
      cases h
      exact .cons (shwE_ok I hs h1 r1 q1) (shwEs_ok I hs h2 r2 q2)
    · cases h
section
variable {prog : Program} {w : World} {h₀ : Heap} {a : Addr}
/-- a list, a tuple of such items -/
theorem shows_list {o : Obj} {vs : Array Value} {n : Nat} {ps : List PyData} (h1 : h₀.get? a = some o) (h2 : o.cls = .type "list") (h3 : o.data = .seq vs n) (h4 : RdAll h₀ vs.toList ps) (hs : PyData.showableAll ps = true) (hz : (PyData.list ps).shown.length ≤ sizeLine) :
    ShowsBy prog w h₀ a (.list ps) "list" "list.__repr__" := by
  have hz' : (listText (PyData.shownAll ps)).length ≤ sizeLine := by simpa only [PyData.shown] using hz
  obtain ⟨bs, hb, hk⟩ := h4.repr (prog := prog) (w := w) hs fun t ht => Nat.le_trans (listText_mem_le ht) hz'
  obtain ⟨as, rd⟩ := h4.reads
  have hna : a ∉ bs := not_mem_of_deeper (.list h1 h2 h3 rd) (by simp only [PyData.depth]; omega) hb
  refine ⟨F.slot_list_repr.toG, F.slot_list_str, F.slot_list_format, fun s hk0 => ⟨o, hk0 _ _ h1, h2⟩, fun A E s Q hg hu hk0 hQ => ?_⟩
  simp only [PyData.depth] at hu
  simp only [PyData.shown] at hQ
  obtain ⟨l⟩ := vs
  cases l with
  | nil =>
    cases (show RdAll h₀ [] ps from h4)
    simp only [PyData.shownAll, listText_nil] at hQ
    exact call_list_repr_empty ⟨o, hk0 _ _ h1, h2⟩ (hk0 _ _ h1) h3 (hQ s.heap _ _ fun _ _ e => e)
  | cons x l => exact call_list_reprK h1 h2 h3 hna (by simpa using hk.length_eq) (fun i y e => hk.item i y (by simpa using e)) hg (fun b _ => Clear.nil b) hu hk0 hQ hz'
theorem shows_tuple {o : Obj} {vs : Array Value} {n : Nat} {ps : List PyData} (h1 : h₀.get? a = some o) (h2 : o.cls = .type "tuple") (h3 : o.data = .seq vs n) (h4 : RdAll h₀ vs.toList ps) (hs : PyData.showableAll ps = true) (hz : (PyData.tuple ps).shown.length ≤ sizeLine) :
    ShowsBy prog w h₀ a (.tuple ps) "tuple" "tuple.__repr__" := by
  have hz' : (tupleText (PyData.shownAll ps)).length ≤ sizeLine := by simpa only [PyData.shown] using hz
  obtain ⟨bs, hb, hk⟩ := h4.repr (prog := prog) (w := w) hs fun t ht => Nat.le_trans (tupleText_mem_le ht) hz'
  obtain ⟨as, rd⟩ := h4.reads
  have hna : a ∉ bs := not_mem_of_deeper (.tuple h1 h2 h3 rd) (by simp only [PyData.depth]; omega) hb
  refine ⟨F.slot_tuple_repr, F.slot_tuple_str, F.slot_tuple_format, fun s hk0 => ⟨o, hk0 _ _ h1, h2⟩, fun A E s Q hg hu hk0 hQ => ?_⟩
  simp only [PyData.depth] at hu
  simp only [PyData.shown] at hQ
  exact call_tuple_reprK h1 h2 h3 hna hk hg (fun b _ => Clear.nil b) hu hk0 hQ hz'
end
theorem repr_by {prog : Program} {w : World} {a : Addr} {p : PyData} {T idr : String} {A : Around} {E : Value → Shared → Prop} {s : Shared} {Q : Value → Shared → Prop} (S : ShowsBy prog w s.heap a p T idr) (hg : A.guards = some []) (hu : A.units + (p.depth + 1) < cLine) (hz : p.shown.length ≤ sizeLine)
    (hQ : ∀ h' u tk, (∀ b o, s.heap.get? b = some o → h'.get? b = some o) → Q (.str p.shown u) { s with heap := h', toks := tk }) : wpAny (model prog w) A (call (.builtin "repr") [.ref a]) Q E s :=
  call_repr_slot (by omega) (S.typeIs s fun _ _ e => e) S.slotRepr (S.call A.in1 E s _ hg (by show A.units + 1 + p.depth < cLine; omega) (fun _ _ e => e) fun h' u tk hk => ⟨_, _, rfl, hQ h' u tk hk⟩)
theorem fn_repr (hg : X.A.guards = some []) (hu : X.A.units + 65 < cLine) : CallR X (.builtin "repr") (rFn X.K X.mg reprD) := by
  intro pins s σ H xs us Q I r h
  obtain ⟨ρ, st, ds, hs, hd, h⟩ := h
  match hd, r, h with
  | .nil, _, h => exact h.none.elim
  | .cons _ (.cons _ _), _, h => exact h.none.elim
  | .cons (d := d) h1 .nil, .cons ru .nil, h =>
    have h' : Res X.K X.mg ρ H (match shw st d with | some p => if p.showable ∧ p.depth ≤ 62 ∧ p.shown.length ≤ sizeLine then some (.str p.shown, st) else none | none => none) Q := h
    cases hp : shw st d with
    | none => rw [hp] at h'; exact h'.none.elim
    | some p =>
      rw [hp] at h'
      obtain ⟨⟨z1, z2, z3⟩, h'⟩ := Res.if h'
      have fin := h'.here hs (v := .str p.shown) (.str _)
      have done_ : ∀ h' u tk, (∀ b o, s.heap.get? b = some o → h'.get? b = some o) → EP X pins σ Q (.str p.shown u) { s with heap := h', toks := tk } := fun h' u tk hk => ⟨.str p.shown, H, I.kept (t' := tk) hk, ⟨u, rfl⟩, fin⟩
      have flat : ∀ {e : D} {v : V} {u : Value}, dat st 60 e = some p → Rep X.K X.mg ρ H e v → RelV v u → (∀ a, v ≠ .ref a) → wpAny (model X.prog X.w) X.A (call (.builtin "repr") [u]) (EP X pins σ Q) X.xe s := fun {e v u} he r ru nr => by
        have dp := dat_ok hs _ _ _ _ he r
        cases dp with
        | non =>
          cases (show u = Value.none from ru)
          exact P.repr_of_none (by simpa [PyData.shown] using done_ s.heap _ _ fun _ _ e => e)
        | bl b =>
          cases (show u = Value.bool b from ru)
          exact P.repr_of_bool (by simpa [PyData.shown] using done_ s.heap _ _ fun _ _ e => e)
        | int i =>
          obtain ⟨t, rfl⟩ := (show ∃ t, u = Value.int i t from ru)
          exact P.repr_of_int (by simpa [PyData.showable] using z1) (by simpa [PyData.shown] using done_ s.heap _ _ fun _ _ e => e)
        | str x =>
          obtain ⟨t, rfl⟩ := (show ∃ t, u = Value.str x t from ru)
          exact P.repr_of_str (by simpa [PyData.shown] using done_ s.heap _ _ fun _ _ e => e) (by simpa [PyData.shown] using z3)
        | lst _ _ => exact absurd rfl (nr _)
        | tup _ _ => exact absurd rfl (nr _)
      have lst : ∀ {a : Addr} {xs : List V} {l : List D} {ps : List PyData}, SqL X.K H a xs → RepL X.K X.mg ρ H l xs → optAll (shwE st) l = some ps → p = .list ps → wpAny (model X.prog X.w) X.A (call (.builtin "repr") [.ref a]) (EP X pins σ Q) X.xe s := fun {a xs l ps} hq rl hp9 e => by
        subst e
        obtain ⟨its, rv, ⟨⟨cls, dd, data, sls⟩, n, ho, hc, hdn, hdt⟩, _⟩ := I.list hq
        exact repr_by (shows_list ho hc hdt (shwEs_ok I hs hp9 rl rv) (by simpa [PyData.showable] using z1) z3) hg (by omega) z3 done_
      cases h1 with
      | non => exact flat (e := .non) (by exact hp) .non ru fun a z => nomatch z
      | bl b => exact flat (e := .bl b) (by exact hp) (.bl b) ru fun a z => nomatch z
      | int i => exact flat (e := .int i) (by exact hp) (.int i) ru fun a z => nomatch z
      | str x => exact flat (e := .str x) (by exact hp) (.str x) ru fun a z => nomatch z
      | tup hq rl =>
        cases ru
        obtain ⟨ps, hp1, e⟩ := Option.map_eq_some_iff.mp (show (optAll (shwE st) _).map PyData.tuple = some p from hp)
        subst e
        obtain ⟨its, rv, ⟨o, ho, hc, n, hdt⟩, _⟩ := I.tuple hq
        exact repr_by (shows_tuple ho hc hdt (shwEs_ok I hs hp1 rl rv) (by simpa [PyData.showable] using z1) z3) hg (by omega) z3 done_
      | fro hq rl =>
        cases ru
        obtain ⟨ps, hp1, e⟩ := Option.map_eq_some_iff.mp (show (optAll (shwE st) _).map PyData.list = some p from hp)
        exact lst hq.sql rl hp1 e.symm
      | @ref n a ha =>
        cases ru
        have hp2 : (match st[n]? with | some (.dct l) => shwD st l | some (.lst l) => (optAll (shwE st) l).map PyData.list | none => none) = some p := hp
        split at hp2
        · rename_i l hn
          obtain ⟨as, rd, hsm⟩ := shwD_ok I hs hn ha hp2
          exact repr_of_reads' rd z1 hsm hg (by omega) (fun _ _ e => e) done_ z3
        · rename_i l hn
          obtain ⟨xs, e0, rl⟩ := (show ObR X.K X.mg ρ H a (.lst l) from hs.obj n a _ ha hn)
          obtain ⟨ps, hp1, e⟩ := Option.map_eq_some_iff.mp hp2
          exact lst (.of e0) rl hp1 e.symm
        · cases hp2
      | glb _ => cases hp
      | ty _ => cases hp
      | exc0 _ _ _ => cases hp
      | exc1 _ _ _ _ _ _ => cases hp

/-! ### classes -/
/-- a class as a value -/
def ClsD (mg : Str → Option Value) : D → Value → Prop
  | .glb y, u => ∃ C, mg y = some (.ref C) ∧ u = .ref C
  | .ty n, u => u = .type n
  | _, _ => False
/-- what the written part says of the own error classes -/
structure ExsOk (T : Tab) (P : Program) (K : PySem.W.Frag) (mg : Str → Option Value) : Prop where
  sup : mg "super" = none
  at_ : ∀ x e, T.excs.lookup x = some e → (x == ("__debug__" : Str)) = false ∧ ∃ C, mg x = some (.ref C) ∧ PySem.W.keepIn K (.ref C) = true ∧ ExcC K C ∧ XfC K C ∧
    (e.fld = none → ∃ B newId initId bmB, ExcBaseFacts B newId initId bmB ∧ PySem.W.excIn K C bmB newId = true) ∧ (∀ f, e.fld = some f → ExcV P K C f ∧ PySem.W.findIn K (.ref C) f = some none) ∧
    ∀ c u, askC T c = true → ClsD mg c u → PySem.W.kitOne K (.ref C) u = some (e.sup.any (sameC c))
theorem ty_of (hs : Sim X.K X.mg ρ st H) {d : D} {v : V} {t : String} (h : tyOf st d = some t) (r : Rep X.K X.mg ρ H d v) : TyX X.K H v (.type t) := by
  cases r with
  | non => cases h; exact .base .non
  | bl b => cases h; exact .base (.bl b)
  | int i => cases h; exact .base (.int i)
  | str x => cases h; exact .base (.str x)
  | tup hq _ =>
    cases h
    rcases hq with (e | ⟨o, e⟩) | ⟨o, its, n, e, c, _⟩
    · exact .base (.tup e)
    · exact .fTuple e
    · exact .kTuple e c
  | fro hq _ =>
    cases h
    rcases hq with ⟨o, e⟩ | ⟨o, its, n, e, c, _⟩
    · exact .base (.frz e)
    · exact .kList e c
  | @ref n a ha =>
    have h' : (match st[n]? with | some (.lst _) => some "list" | some (.dct _) => some "dict" | none => none) = some t := h
    split at h'
    · rename_i l hn
      cases h'
      obtain ⟨xs, e, _⟩ := (show ObR X.K X.mg ρ H a (.lst l) from hs.obj n a _ ha hn)
      exact .base (.lst e)
    · rename_i l hn
      cases h'
      obtain ⟨xs, e, _⟩ := (show ObR X.K X.mg ρ H a (.dct l) from hs.obj n a _ ha hn)
      exact .base (.dK e)
    · cases h'
  | glb _ => cases h
  | ty _ => cases h
  | exc0 _ _ _ => cases h
  | exc1 _ _ _ _ _ _ => cases h
theorem fn_isa {T : Tab} (EX : ExsOk T X.prog X.K X.mg) : CallR X (.builtin "isinstance") (rFn X.K X.mg (isaD T)) := by
  intro pins s σ H xs us Q I r h
  obtain ⟨ρ, st, ds, hs, hd, h⟩ := h
  match ds, hd, r, h with
  | [], .nil, _, h => exact h.none.elim
  | [_], .cons _ .nil, _, h => exact h.none.elim
  | _ :: _ :: _ :: _, .cons _ (.cons _ (.cons _ _)), _, h => exact h.none.elim
  | [d, c], .cons (v := v1) h1 (.cons (v := v2) h2 .nil), r, h =>
    have h' : Res X.K X.mg ρ H ((isa1 T st d c).map fun b => (.bl b, st)) Q := h
    cases hb : isa1 T st d c with
    | none => rw [hb] at h'; exact h'.none.elim
    | some b =>
      rw [hb] at h'
      have fin := h'.here hs (v := .bl b) (.bl b)
      have cls : ∀ {c : D} {v : V}, askC T c = true → Rep X.K X.mg ρ H c v → ∃ u, ClsD X.mg c u ∧ ∀ w, RelV v w → w = u := fun {c v} ha rc => by
        cases rc with
        | glb hm => exact ⟨_, ⟨_, hm, rfl⟩, fun w hw => hw⟩
        | ty n => exact ⟨_, rfl, fun w hw => hw⟩
        | _ => cases ha
      have err : ∀ {x : Str} {fs : List (Str × D)} {C a : Addr} {dx : Option Addr}, d = .exc x fs → v1 = .ref a → X.mg x = some (.ref C) → H a = some (ExOd (.ref C) dx a) → (∀ y, dx = some y → ∃ fs, H y = some (.xd fs)) → wpAny (model X.prog X.w) X.A (call (.builtin "isinstance") us) (EP X pins σ Q) X.xe s := fun {x fs C a dx} e1 e2 hm ha hdx => by
        subst e1 e2
        have hb' : (match T.excs.lookup x with | some e => if askC T c then some (e.sup.any (sameC c)) else none | none => none) = some b := hb
        split at hb'
        · rename_i e he
          split at hb'
          · rename_i hask
            cases hb'
            obtain ⟨_, C', hm', _, ec, _, _, _, kit⟩ := EX.at_ x e he
            rw [hm] at hm'
            cases hm'
            obtain ⟨u, hc, hu⟩ := cls hask h2
            exact call_isX (a := a) (D := C) (d := dx) ec (fun _ _ => trivial) pins s σ H _ us Q I r ⟨v2, u, _, rfl, ha, hdx, hu, kit c u hask hc, fin⟩
          · cases hb'
        · cases hb'
      have oth : isa0 (tyOf st d) c = some b → wpAny (model X.prog X.w) X.A (call (.builtin "isinstance") us) (EP X pins σ Q) X.xe s := fun hb' => by
        cases ht : tyOf st d with
        | none => rw [ht] at hb'; cases hb'
        | some t =>
          rw [ht] at hb'
          cases h2 with
          | ty n => exact call_isi pins s σ H _ us Q I r ⟨v1, .ty n, .type t, .type n, b, rfl, .ty n, ty_of hs ht h1, kit_ty (a := t) (b := n) hb', fin⟩
          | _ => cases hb'
      cases h1 with
      | exc0 hm _ ha => exact err rfl rfl hm ha fun y e => nomatch e
      | exc1 hm _ ha _ hdx _ => exact err rfl rfl hm ha fun y e => by cases e; exact ⟨_, hdx⟩
      | non => exact oth hb
      | bl _ => exact oth hb
      | int _ => exact oth hb
      | str _ => exact oth hb
      | tup a b => exact oth hb
      | fro a b => exact oth hb
      | ref _ => exact oth hb
      | glb _ => exact oth hb
      | ty _ => exact oth hb
/-- every built-in function of the table -/
theorem blt_fn {T : Tab} (EX : ExsOk T X.prog X.K X.mg) (hg : X.A.guards = some []) (hu : X.A.units + 65 < cLine) (hc : X.calm = true) {x : Str} {f : List D → Store → Option (D × Store)} (h : bltFn T x = some f) :
    ∃ id, bootBuiltins x = some (.builtin id) ∧ x ≠ "__name__" ∧ (x == ("__debug__" : Str)) = false ∧ CallR X (.builtin id) (rFn X.K X.mg f) := by
  unfold bltFn at h
  split at h
  · rename_i e
    cases h
    subst e
    exact ⟨"isinstance", by decide +kernel, by decide +kernel, by decide +kernel, fn_isa EX⟩
  split at h
  · rename_i e
    cases h
    subst e
    exact ⟨"repr", by decide +kernel, by decide +kernel, by decide +kernel, fn_repr hg hu⟩
  split at h
  · rename_i e
    cases h
    subst e
    exact ⟨"len", PySem.boot_len, by decide +kernel, by decide +kernel, fn_len⟩
  split at h
  · rename_i e
    cases h
    subst e
    exact ⟨"abs", by decide +kernel, by decide +kernel, by decide +kernel, fn_abs⟩
  split at h
  · rename_i e
    cases h
    subst e
    exact ⟨"max", by decide +kernel, by decide +kernel, by decide +kernel, fn_max hc⟩
  split at h
  · rename_i e
    cases h
    subst e
    exact ⟨"min", by decide +kernel, by decide +kernel, by decide +kernel, fn_min hc⟩
  · cases h
theorem blt_nil {T : Tab} {x : Str} {f : List D → Store → Option (D × Store)} (h : bltFn T x = some f) (st : Store) : f [] st = none := by
  unfold bltFn at h
  repeat (first | (split at h; (cases h; rfl)) | cases h)
theorem blt_cls (hc : X.calm = true) {x : Str} {f : List D → Store → Option (D × Store)} (h : bltCls x = some f) : ∃ T, bootBuiltins x = some (.type T) ∧ x ≠ "__name__" ∧ (x == ("__debug__" : Str)) = false ∧ CallR X (.type T) (rFn X.K X.mg f) := by
  unfold bltCls at h
  split at h
  · rename_i e
    cases h
    subst e
    exact ⟨"int", by decide +kernel, by decide +kernel, by decide +kernel, cl_int⟩
  · cases h

/-! ### slices -/
def rSl2 (K : PySem.W.Frag) (mg : Str → Option Value) : V → Option Int → Option Int → Hp → VK → Prop := fun x lo hi H Q => ∃ ρ st d, Sim K mg ρ st H ∧ Rep K mg ρ H d x ∧ Res K mg ρ H (sliceD d lo hi st) Q
theorem RepL.drop {K : PySem.W.Frag} {mg : Str → Option Value} {ρ : List Addr} {H : Hp} : ∀ (n : Nat) {l : List D} {xs : List V}, RepL K mg ρ H l xs → RepL K mg ρ H (l.drop n) (xs.drop n)
  | 0, _, _, r => r
  | n + 1, _, _, .nil => .nil
  | n + 1, _, _, .cons _ t => RepL.drop n t
theorem RepL.take {K : PySem.W.Frag} {mg : Str → Option Value} {ρ : List Addr} {H : Hp} : ∀ (n : Nat) {l : List D} {xs : List V}, RepL K mg ρ H l xs → RepL K mg ρ H (l.take n) (xs.take n)
  | 0, _, _, _ => .nil
  | n + 1, _, _, .nil => .nil
  | n + 1, _, _, .cons h t => .cons h (RepL.take n t)
theorem cut_rep {K : PySem.W.Frag} {mg : Str → Option Value} {ρ : List Addr} {H : Hp} {l : List D} {xs : List V} (r : RepL K mg ρ H l xs) (lo hi : Option Int) : RepL K mg ρ H (cutD l lo hi) (cutV xs lo hi) := by
  unfold cutD cutV
  rw [r.length]
  exact (r.drop _).take _
theorem sl_ok : SlR X (rSl2 X.K X.mg) := by
  intro pins s σ H x v vl vu lo hi sl Q I rx hsl pl pu h
  obtain ⟨ρ, st, d, hs, r, h⟩ := h
  have lst : ∀ {a : Addr} {xs : List V} {l : List D}, x = .ref a → SqL X.K H a xs → RepL X.K X.mg ρ H l xs → Res X.K X.mg ρ H (alloc (.lst (cutD l lo hi)) st) Q → _ := fun {a xs l} e hq rl h => sl_list pins s σ H x v vl vu lo hi sl Q I rx hsl pl pu ⟨a, xs, e, hq, fun p hp => h.new hs (cut_rep rl lo hi) hp⟩
  cases r with
  | fro hq rl => exact lst rfl hq.sql rl h
  | @ref n a ha =>
    have h' : Res X.K X.mg ρ H (match listAt st n with | some l => alloc (.lst (cutD l lo hi)) st | none => none) Q := h
    split at h'
    · rename_i l hl
      obtain ⟨xs, e, rl⟩ := hs.list hl ha
      exact lst rfl (.of e) rl h'
    · exact h'.none.elim
  | @tup l a xs hq rl =>
    have h' : Res X.K X.mg ρ H (if HT.sIx l.length 0 lo = 0 ∧ HT.sIx l.length l.length hi = l.length then none else some (.tup (cutD l lo hi), st)) Q := h
    split at h'
    · exact h'.none.elim
    · rename_i hw
      refine sl_tup pins s σ H _ v vl vu lo hi sl Q I rx hsl pl pu ⟨a, xs, rfl, hq, by rw [← rl.length]; exact hw, fun p hp => ?_⟩
      obtain ⟨d', st', e, q⟩ := h'
      cases e
      exact q ρ _ (sim_new hs hp) (ext_new hp) _ (.tup (.of upd_same) ((cut_rep rl lo hi).ext (ext_new hp)))
  | str z =>
    obtain ⟨hz, h'⟩ := Res.if (show Res X.K X.mg ρ H (if z.length ≤ sizeLine then some (D.str (Txt.slice z lo hi), st) else none) Q from h)
    exact C8.sl_txt pins s σ H _ v vl vu lo hi sl Q I rx hsl pl pu ⟨z, rfl, hz, h'.here hs (.str _)⟩
  | _ => exact (Res.none (show Res X.K X.mg ρ H none Q from h)).elim
end
end Nd
end

section
set_option Elab.async false
set_option linter.all false
set_option maxRecDepth 100000
/-! NdD: the interpreter is right. -/
namespace Nd
open PySem PySem.Spec PyProof.Rows L2

/-- an error's attributes -/
def ExcR (K : PySem.W.Frag) (mg : Str → Option Value) (c : D) (fs : List (Str × D)) (ρ : List Addr) (H : Hp) (cv : Value) (dx : Option Addr) : Prop :=
  (∃ v, Rep K mg ρ H c v ∧ RelV v cv) ∧ match dx with
    | none => fs = []
    | some a => ∃ gs, H a = some (.xd gs) ∧ gs.map (·.1) = fs.map (·.1) ∧ RepL K mg ρ H (fs.map (·.2)) (gs.map (·.2))
def EW (X : Cx) (W : WX) : D → List (Str × D) → List Addr → Store → Hp → Prop := fun c fs ρ _ H => ∀ cv dx σ, ExcR X.K X.mg c fs ρ H cv dx → W cv dx σ H
def tE (X : Cx) (W : WX) (r : Sys) (c : Cc) (e : PySem.Expr) : TE := fun σ H Q => ∃ ρ st env, Sim X.K X.mg ρ st H ∧ EnvR X.K X.mg ρ H env σ ∧
  After X.K X.mg ρ H (r.E c e env st) (fun d ρ' _ H' => ∀ v, Rep X.K X.mg ρ' H' d v → Q v H') (EW X W)
def tT (X : Cx) (W : WX) (r : Sys) (c : Cc) (e : PySem.Expr) : TT := fun σ H Q => ∃ ρ st env, Sim X.K X.mg ρ st H ∧ EnvR X.K X.mg ρ H env σ ∧
  After X.K X.mg ρ H (r.T c e env st) (fun k _ _ H' => Q k H') (EW X W)
def tA (X : Cx) (W : WX) (r : Sys) (c : Cc) (es : List PySem.Expr) : TA := fun σ H Q => ∃ ρ st env, Sim X.K X.mg ρ st H ∧ EnvR X.K X.mg ρ H env σ ∧
  After X.K X.mg ρ H (argsE r c es env st) (fun ds ρ' _ H' => ∀ vs, RepL X.K X.mg ρ' H' ds vs → Q vs H') (EW X W)
/-- what is wanted behind a statement -/
def endP (X : Cx) (D : Ends) (fe : Fl × Env) (ρ : List Addr) (H : Hp) : Prop := match fe.1 with
  | .nx => ∀ σ, EnvR X.K X.mg ρ H fe.2 σ → D.nx σ H
  | .rt d => ∀ v, Rep X.K X.mg ρ H d v → D.rt v H
  | .bk => ∀ σ, EnvR X.K X.mg ρ H fe.2 σ → D.bk σ H
  | .ct => ∀ σ, EnvR X.K X.mg ρ H fe.2 σ → D.ct σ H
def tS (X : Cx) (W : WX) (r : Sys) (c : Cc) (s : PySem.Stmt) : TS := fun D σ H => ∃ ρ st env, Sim X.K X.mg ρ st H ∧ EnvR X.K X.mg ρ H env σ ∧
  After X.K X.mg ρ H (r.S c s env st) (fun fe ρ' _ H' => endP X D fe ρ' H') (EW X W)
def tB (X : Cx) (W : WX) (r : Sys) (c : Cc) (ss : List PySem.Stmt) : TS := fun D σ H => ∃ ρ st env, Sim X.K X.mg ρ st H ∧ EnvR X.K X.mg ρ H env σ ∧
  After X.K X.mg ρ H (blockS r c ss env st) (fun fe ρ' _ H' => endP X D fe ρ' H') (EW X W)

theorem PE.mono {X : Cx} {e : PySem.Expr} {t t' : TE} (h : PE X e t) (k : ∀ σ H Q, t' σ H Q → t σ H Q) : PE X e t' := ⟨fun pins s σ H Q I q => h.run pins s σ H Q I (k σ H Q q)⟩
theorem PT.mono {X : Cx} {e : PySem.Expr} {t t' : TT} (h : PT X e t) (k : ∀ σ H Q, t' σ H Q → t σ H Q) : PT X e t' := ⟨fun pins s σ H Q I q => h.run pins s σ H Q I (k σ H Q q)⟩
theorem PA.mono {X : Cx} {e : List PySem.Expr} {t t' : TA} (h : PA X e t) (k : ∀ σ H Q, t' σ H Q → t σ H Q) : PA X e t' := ⟨fun pos pins s σ H Q I q => h.run pos pins s σ H Q I (k σ H Q q)⟩
theorem PS.mono {X : Cx} {e : PySem.Stmt} {t t' : TS} (h : PS X e t) (k : ∀ D σ H, t' D σ H → t D σ H) : PS X e t' := ⟨fun pins s σ H D I q => h.run pins s σ H D I (k D σ H q)⟩
theorem PSs.mono {X : Cx} {e : List PySem.Stmt} {t t' : TS} (h : PSs X e t) (k : ∀ D σ H, t' D σ H → t D σ H) : PSs X e t' := ⟨fun pins s σ H D I q => h.run pins s σ H D I (k D σ H q)⟩
theorem PE.no {X : Cx} {e : PySem.Expr} {t : TE} (k : ∀ σ H Q, ¬ t σ H Q) : PE X e t := ⟨fun pins s σ H Q I q => (k σ H Q q).elim⟩
theorem PT.no {X : Cx} {e : PySem.Expr} {t : TT} (k : ∀ σ H Q, ¬ t σ H Q) : PT X e t := ⟨fun pins s σ H Q I q => (k σ H Q q).elim⟩
theorem PA.no {X : Cx} {e : List PySem.Expr} {t : TA} (k : ∀ σ H Q, ¬ t σ H Q) : PA X e t := ⟨fun pos pins s σ H Q I q => (k σ H Q q).elim⟩
theorem PS.no {X : Cx} {e : PySem.Stmt} {t : TS} (k : ∀ D σ H, ¬ t D σ H) : PS X e t := ⟨fun pins s σ H D I q => (k D σ H q).elim⟩

section
variable {X : Cx} {W : WX} {r : Sys} {c : Cc} {ρ : List Addr} {H : Hp} {st : Store}
theorem lft_res {Q : VK} {o : Option (D × Store)} (h : After X.K X.mg ρ H (lft o) (fun d ρ' _ H' => ∀ v, Rep X.K X.mg ρ' H' d v → Q v H') (EW X W)) : Res X.K X.mg ρ H o Q := by
  cases o with
  | none => exact h.elim
  | some p => exact ⟨p.1, p.2, rfl, h⟩
theorem ret_here {Q : VK} {o : Option D} (hs : Sim X.K X.mg ρ st H) (h : After X.K X.mg ρ H (ret o st) (fun d ρ' _ H' => ∀ v, Rep X.K X.mg ρ' H' d v → Q v H') (EW X W)) : ∃ d, o = some d ∧ ∀ v, Rep X.K X.mg ρ H d v → Q v H := by
  cases o with
  | none => exact h.elim
  | some d => exact ⟨d, rfl, h ρ H hs Ext.refl⟩
/-- two expressions, then something -/
theorem seq2 {a b : PySem.Expr} {f : D → D → Store → R D} {σ : L2.St} {Q : VK} {G : V → V → Hp → Prop} (env : Env) (hs : Sim X.K X.mg ρ st H) (he : EnvR X.K X.mg ρ H env σ)
    (h : After X.K X.mg ρ H ((r.E c a env st).bind fun x st => (r.E c b env st).bind fun y st => f x y st) (fun d ρ' _ H' => ∀ v, Rep X.K X.mg ρ' H' d v → Q v H') (EW X W))
    (k : ∀ ρ2 st2 H2 x y v u, Sim X.K X.mg ρ2 st2 H2 → Ext ρ H ρ2 H2 → Rep X.K X.mg ρ2 H2 x v → Rep X.K X.mg ρ2 H2 y u →
      After X.K X.mg ρ2 H2 (f x y st2) (fun d ρ' _ H' => ∀ v, Rep X.K X.mg ρ' H' d v → Q v H') (EW X W) → G v u H2) :
    tE X W r c a σ H fun v H1 => tE X W r c b σ H1 fun u H2 => G v u H2 := by
  refine ⟨ρ, st, env, hs, he, h.first.mono fun x ρ1 st1 H1 hs1 hx1 hk v rv => ?_⟩
  exact ⟨ρ1, st1, env, hs1, he.ext hx1, hk.first.mono fun y ρ2 st2 H2 hs2 hx2 hk2 u ru => k ρ2 st2 H2 x y v u hs2 (hx1.trans hx2) (rv.ext hx2) ru hk2⟩
end

/-! ### what a context must have -/
structure GlbOk (T : Tab) (K : PySem.W.Frag) (mg : Str → Option Value) : Prop where
  glb : ∀ x d, T.glb.lookup x = some d → (x == ("__debug__" : Str)) = false ∧ ∃ u v, mg x = some u ∧ RelV v u ∧ ∀ ρ H, Rep K mg ρ H d v
  blt : ∀ x, T.blt.contains x = true → mg x = none ∧ x ≠ "__name__" ∧ (x == ("__debug__" : Str)) = false
structure FunOk (T : Tab) (K : PySem.W.Frag) (mg : Str → Option Value) : Prop where
  fns : ∀ x F, T.fns.lookup x = some F → (x == ("__debug__" : Str)) = false ∧ (∀ y ∈ F.N, (y == ("__debug__" : Str)) = false ∧ (y == ("__classdict__" : Str)) = false) ∧
    ∃ f fd, mg x = some (.ref f) ∧ Fun K x F.qual F.st f fd ∧ FnScope F.N F.ps (defScope F.st) ∧ Binds K fd F.ps []
structure Good (T : Tab) (n : Nat) (c : Cc) (X : Cx) (W : WX) : Prop where
  sc : X.env.scope = c.sc
  N : X.N = c.N
  nd : c.N.Nodup
  nb : ∀ y ∈ c.N, (y == ("__debug__" : Str)) = false ∧ (y == ("__classdict__" : Str)) = false
  calm : c.calm = true → X.calm = true
  room : c.calm = true → Room n X.A
  fn : ∀ x, c.fn x = true → X.fn x = true
  glb : GlbOk T X.K X.mg
  funs : FunOk T X.K X.mg
  units : X.A.units + 65 < cLine
  tk : Takes X W
  own : PassesOwn (model X.prog X.w) X.A X.env X.xe
  gd : X.A.guards = some []
  exs : ExsOk T X.prog X.K X.mg
theorem Good.down {T : Tab} {n : Nat} {c : Cc} {X : Cx} {W : WX} (g : Good T (n + 1) c X W) : Good T n c X W :=
  ⟨g.sc, g.N, g.nd, g.nb, g.calm, fun h => (g.room h).mono (Nat.le_succ n), g.fn, g.glb, g.funs, g.units, g.tk, g.own, g.gd, g.exs⟩
/-- the promise of a def of the table -/
def spI (K : PySem.W.Frag) (mg : Str → Option Value) (r : Sys) (x : Str) (m : Nat) : Sp := fun vs H Q E => ∃ ρ st ds, Sim K mg ρ st H ∧ RepL K mg ρ H ds vs ∧ ds.length = m ∧
  After K mg ρ H (r.call x ds st) (fun d ρ' _ H' => ∀ v, Rep K mg ρ' H' d v → Q v H') (fun e fs ρ' _ H' => ∀ cv dx, ExcR K mg e fs ρ' H' cv dx → E cv dx H')
def CallsOk (T : Tab) (r : Sys) (n : Nat) : Prop := ∀ (P : Program) (w : World) (K : PySem.W.Frag) (mg : Str → Option Value) (base : Heap), GlbOk T K mg → FunOk T K mg → ExsOk T P K mg →
  ∀ x F f fd, T.fns.lookup x = some F → Fun K x F.qual F.st f fd → FnG P w K mg base (L2.CX P w) n f fd F.ps (spI K mg r x F.ps.length)
structure Sound (T : Tab) (r : Sys) (n : Nat) : Prop where
  ex : ∀ c X W, Good T n c X W → ∀ e, PE X e (tE X W r c e)
  te : ∀ c X W, Good T n c X W → ∀ e, PT X e (tT X W r c e)
  st : ∀ c X W, Good T n c X W → ∀ s, PS X s (tS X W r c s)
  call : CallsOk T r n

/-! ### names -/
theorem ixOf_some : ∀ {N : List Str} {x : Str} {i : Nat}, ixOf N x = some i → N[i]? = some x
  | [], _, _, h => by cases h
  | y :: r, x, i, h => by
    unfold ixOf at h
    split at h
    · rename_i e
      cases h
      subst e
      rfl
    · obtain ⟨j, h1, e⟩ := Option.map_eq_some_iff.mp h
      subst e
      simpa using ixOf_some h1
theorem slotOf_some {c : Cc} {x : Str} {i : Nat} (h : slotOf c x = some i) : c.N[i]? = some x ∧ Vis c.sc x := by
  unfold slotOf at h
  split at h
  · rename_i e
    exact ⟨ixOf_some h, .inl e⟩
  · rename_i e
    exact ⟨ixOf_some h, .inr (.inl e)⟩
  · rename_i e
    exact ⟨ixOf_some h, .inr (.inr e)⟩
  · cases h
theorem isGlob_gl {T : Tab} {n : Nat} {c : Cc} {X : Cx} {W : WX} (g : Good T n c X W) {x : Str} (h : isGlob c x = true) : Gl X x := by
  unfold isGlob at h
  show X.env.scope.names.lookup x = some .globalImplicit
  rw [g.sc]
  split at h
  · assumption
  · cases h
theorem tslot_some {T : Tab} {n : Nat} {c : Cc} {X : Cx} {W : WX} (g : Good T n c X W) {x : Str} {i : Nat} (h : tslot c x = some i) : X.N[i]? = some x ∧ L2.Loc X.env.scope x ∧ (X.fn x = true ∨ X.env.scope.names.lookup x = some .local) := by
  unfold tslot at h
  rw [g.N]
  unfold L2.Loc
  rw [g.sc]
  split at h
  · rename_i e
    exact ⟨ixOf_some h, .inl e, .inr e⟩
  · rename_i e
    split at h
    · rename_i hf
      exact ⟨ixOf_some h, .inr e, .inl (g.fn x hf)⟩
    · cases h
  · cases h

section
variable {T : Tab} {n : Nat} {r : Sys} {c : Cc} {X : Cx} {W : WX}
theorem e_name (g : Good T n c X W) (x : Str) (pos : Pos) : PE X (.Name x pos) (tE X W (step T r) c (.Name x pos)) := by
  cases hl : slotOf c x with
  | some i =>
    obtain ⟨h1, h2⟩ := slotOf_some hl
    have hb := g.nb x (List.mem_of_getElem? h1)
    refine PE.mono (pe_var (i := i) (by rw [g.N]; exact h1) (by rw [g.sc]; exact h2) hb.1 hb.2) fun σ H Q h => ?_
    obtain ⟨ρ, st, env, hs, he, ha⟩ := h
    obtain ⟨d, ed, q⟩ := ret_here hs (show After _ _ _ _ (ret (look T c x env) st) _ _ from ha)
    unfold look at ed
    rw [hl] at ed
    obtain ⟨v, e1, rv⟩ := he.at_ i d (by
      have := ed
      cases z : env[i]? with
      | none => simp [z] at this
      | some o => simp [z] at this; rw [this])
    exact ⟨v, e1, q v rv⟩
  | none =>
    by_cases hg : isGlob c x = true
    · have gl := isGlob_gl g hg
      have core : ∀ {v : V}, (∀ ρ H st env d, look T c x env = some d → Sim X.K X.mg ρ st H → Rep X.K X.mg ρ H d v) → PE X (.Name x pos) (tC v) → PE X (.Name x pos) (tE X W (step T r) c (.Name x pos)) := fun {v} hr hp => by
        refine PE.mono hp fun σ H Q h => ?_
        obtain ⟨ρ, st, env, hs, he, ha⟩ := h
        obtain ⟨d, ed, q⟩ := ret_here hs (show After _ _ _ _ (ret (look T c x env) st) _ _ from ha)
        exact q v (hr ρ H st env d ed hs)
      have lk : ∀ env, look T c x env = globOf T x := fun env => by unfold look; rw [hl, if_pos hg]
      cases h1 : T.glb.lookup x with
      | some d =>
        obtain ⟨hd, u, v, hm, rv, rep⟩ := g.glb.glb x d h1
        refine core (v := v) (fun ρ H st env d' e _ => ?_) (pe_glob gl hm rv hd)
        rw [lk] at e
        unfold globOf at e
        rw [h1] at e
        cases e
        exact rep ρ H
      | none =>
        cases h2 : T.fns.lookup x with
        | some F =>
          obtain ⟨hd, _, f, fd, hm, _⟩ := g.funs.fns x F h2
          refine core (v := .ref f) (fun ρ H st env d' e _ => ?_) (pe_glob gl hm rfl hd)
          rw [lk] at e
          unfold globOf at e
          rw [h1, h2] at e
          cases e
          exact .glb hm
        | none =>
          by_cases h3 : T.blt.contains x = true
          · obtain ⟨hm, hn, hd⟩ := g.glb.blt x h3
            cases h4 : bootBuiltins x with
            | none =>
              refine PE.no fun σ H Q h => ?_
              obtain ⟨ρ, st, env, hs, he, ha⟩ := h
              obtain ⟨d, ed, q⟩ := ret_here hs (show After _ _ _ _ (ret (look T c x env) st) _ _ from ha)
              rw [lk] at ed
              unfold globOf at ed
              rw [h1, h2] at ed
              simp only [Option.isSome_none, Bool.false_eq_true, if_false, h3, if_true] at ed
              unfold bltTy at ed
              rw [h4] at ed
              cases ed
            | some u =>
              by_cases h5 : ∃ ty, u = Value.type ty
              · obtain ⟨ty, rfl⟩ := h5
                refine core (v := .ty ty) (fun ρ H st env d' e _ => ?_) (pe_bltn gl hm h4 rfl hn hd)
                rw [lk] at e
                unfold globOf at e
                rw [h1, h2] at e
                simp only [Option.isSome_none, Bool.false_eq_true, if_false, h3, if_true] at e
                unfold bltTy at e
                rw [h4] at e
                cases e
                exact .ty ty
              · refine PE.no fun σ H Q h => ?_
                obtain ⟨ρ, st, env, hs, he, ha⟩ := h
                obtain ⟨d, ed, q⟩ := ret_here hs (show After _ _ _ _ (ret (look T c x env) st) _ _ from ha)
                rw [lk] at ed
                unfold globOf at ed
                rw [h1, h2] at ed
                simp only [Option.isSome_none, Bool.false_eq_true, if_false, h3, if_true] at ed
                unfold bltTy at ed
                rw [h4] at ed
                split at ed
                · rename_i ty e
                  exact h5 ⟨ty, Option.some.inj e⟩
                · cases ed
          · refine PE.no fun σ H Q h => ?_
            obtain ⟨ρ, st, env, hs, he, ha⟩ := h
            obtain ⟨d, ed, q⟩ := ret_here hs (show After _ _ _ _ (ret (look T c x env) st) _ _ from ha)
            rw [lk] at ed
            unfold globOf at ed
            rw [h1, h2] at ed
            simp only [Option.isSome_none, Bool.false_eq_true, if_false, h3] at ed
            cases ed
    · refine PE.no fun σ H Q h => ?_
      obtain ⟨ρ, st, env, hs, he, ha⟩ := h
      obtain ⟨d, ed, q⟩ := ret_here hs (show After _ _ _ _ (ret (look T c x env) st) _ _ from ha)
      unfold look at ed
      rw [hl, if_neg hg] at ed
      cases ed

/-! ### argument lists -/
theorem isStar_of {e : PySem.Expr} {es : List PySem.Expr} {env : PySem.Env} (h : isStar e = false) : starEach (e :: es) env = (false, eval e env) :: starEach es env := by
  cases e <;> first | rfl | cases h
theorem a_args (hE : ∀ e, PE X e (tE X W r c e)) : ∀ es, PA X es (tA X W r c es)
  | [] => PA.mono pa_nil fun σ H Q h => by
    obtain ⟨ρ, st, env, hs, he, ha⟩ := h
    exact (show After _ _ _ _ (R.ok [] st) _ _ from ha).okv hs [] .nil
  | e :: es => by
    by_cases hst : isStar e = true
    · refine PA.no fun σ H Q h => ?_
      obtain ⟨ρ, st, env, hs, he, ha⟩ := h
      unfold argsE at ha
      rw [if_pos hst] at ha
      exact ha
    · refine PA.mono (pa_cons (hE e) (a_args hE es) (isStar_of (by simpa using hst))) fun σ H Q h => ?_
      obtain ⟨ρ, st, env, hs, he, ha⟩ := h
      unfold argsE at ha
      rw [if_neg hst] at ha
      refine ⟨ρ, st, env, hs, he, ha.first.mono fun d ρ1 st1 H1 hs1 hx1 hk v rv => ?_⟩
      exact ⟨ρ1, st1, env, hs1, he.ext hx1, hk.first.mono fun ds ρ2 st2 H2 hs2 hx2 hk2 vs rvs => hk2.okv hs2 (v :: vs) (.cons (rv.ext hx2) rvs)⟩
theorem plain_of {pos : Pos} {env : PySem.Env} : ∀ {es : List PySem.Expr}, noStar es = true → (backTo pos (starEach es env)).any (·.1) = false
  | [], _ => rfl
  | e :: es, h => by
    unfold noStar at h
    rw [List.all_cons] at h
    obtain ⟨h1, h2⟩ := Bool.and_eq_true_iff.mp h
    rw [isStar_of (by simpa using h1)]
    exact plain_of (es := es) h2

/-! ### calls -/
theorem e_call (g : Good T (n + 1) c X W) (S : Sound T r n) (f : PySem.Expr) (args : List PySem.Expr) (pos : Pos) : PE X (.Call f args [] pos) (tE X W (step T r) c (.Call f args [] pos)) := by
  have hE := S.ex c X W g.down
  by_cases hf : ∃ x p, f = .Name x p
  rotate_left
  · refine PE.no fun σ H Q h => ?_
    obtain ⟨ρ, st, env, hs, he, ha⟩ := h
    have ha' : After X.K X.mg ρ H (callE T r c f args env st) _ _ := ha
    unfold callE at ha'
    split at ha'
    · rename_i x p
      exact hf ⟨x, p, rfl⟩
    · exact ha'
  obtain ⟨x, p, rfl⟩ := hf
  by_cases hg : (c.calm && isGlob c x && noStar args) = true
  rotate_left
  · refine PE.no fun σ H Q h => ?_
    obtain ⟨ρ, st, env, hs, he, ha⟩ := h
    have ha' : After X.K X.mg ρ H (callE T r c (.Name x p) args env st) _ _ := ha
    unfold callE at ha'
    simp only [if_neg hg] at ha'
    exact ha'
  obtain ⟨hg1, hns⟩ := Bool.and_eq_true_iff.mp hg
  obtain ⟨hcm, hgl⟩ := Bool.and_eq_true_iff.mp hg1
  have gl := isGlob_gl g hgl
  have hA := a_args (c := c) hE args
  have hr := g.room hcm
  cases hE' : T.excs.lookup x with
  | some ex =>
    obtain ⟨hdb, C, hmC, hkC, _, _, hfn, hfv, _⟩ := g.exs.at_ x ex hE'
    match args, hns, hA with
    | [], _, _ =>
      refine PE.no fun σ H Q ⟨ρ, st, env, hs, he, ha⟩ => ?_
      have ha' : After X.K X.mg ρ H (callE T r c (.Name x p) [] env st) _ _ := ha
      unfold callE at ha'
      simp only [if_pos hg, hE'] at ha'
      exact ha'
    | _ :: _ :: _, _, _ =>
      refine PE.no fun σ H Q ⟨ρ, st, env, hs, he, ha⟩ => ?_
      have ha' : After X.K X.mg ρ H (callE T r c (.Name x p) (_ :: _ :: _) env st) _ _ := ha
      unfold callE at ha'
      simp only [if_pos hg, hE'] at ha'
      exact ha'
    | [a], hns, _ =>
      have hsa : isStar a = false := by
        unfold noStar at hns
        rw [List.all_cons] at hns
        simpa using (Bool.and_eq_true_iff.mp hns).1
      have conv : ∀ {σ H Q}, tE X W (step T r) c (.Call (.Name x p) [a] [] pos) σ H Q → ∃ ρ st env, Sim X.K X.mg ρ st H ∧ EnvR X.K X.mg ρ H env σ ∧ After X.K X.mg ρ H (r.E c a env st) (fun d ρ' st' H' => After X.K X.mg ρ' H' (R.ok (.exc x (match ex.fld with | none => [] | some f => [(f, d)])) st') (fun d ρ' _ H' => ∀ v, Rep X.K X.mg ρ' H' d v → Q v H') (EW X W)) (EW X W) := fun {σ H Q} ⟨ρ, st, env, hs, he, ha⟩ => by
        have ha' : After X.K X.mg ρ H (callE T r c (.Name x p) [a] env st) _ _ := ha
        unfold callE at ha'
        simp only [if_pos hg, hE'] at ha'
        exact ⟨ρ, st, env, hs, he, ha'.first⟩
      cases hf : ex.fld with
      | none =>
        obtain ⟨B, newId, initId, bmB, FB, hq⟩ := hfn hf
        refine PE.mono (pe_exc1 FB hq hmC hkC gl (hE a) (isStar_of hsa) hdb) fun σ H Q h => ?_
        obtain ⟨ρ, st, env, hs, he, ha⟩ := conv h
        refine ⟨ρ, st, env, hs, he, ha.mono fun d ρ1 st1 H1 hs1 hx1 hk v rv b hb => ?_⟩
        rw [hf] at hk
        exact hk ρ1 _ (sim_new hs1 hb) (ext_new hb) _ (.exc0 hmC (fun z => (hs1.mem z).1 hb) upd_same)
      | some f =>
        obtain ⟨ev, _⟩ := hfv f hf
        have hdp : X.A.depth + 1 < recursionLimit := by have := hr.dp; omega
        refine PE.mono (pe_excV ev g.exs.sup hdp hmC hkC gl (hE a) (isStar_of hsa) hdb) fun σ H Q h => ?_
        obtain ⟨ρ, st, env, hs, he, ha⟩ := conv h
        refine ⟨ρ, st, env, hs, he, ha.mono fun d ρ1 st1 H1 hs1 hx1 hk v rv b dx hb hdx hne => ?_⟩
        rw [hf] at hk
        have hb' : upd H1 dx (.xd [(f, v)]) b = none := by rw [upd_ne (Ne.symm hne)]; exact hb
        have e1 := ext_new (ρ := ρ1) (o := .xd [(f, v)]) hdx
        have e2 := ext_new (ρ := ρ1) (o := ExOd (.ref C) (some dx) b) hb'
        refine hk ρ1 _ (sim_new (sim_new hs1 hdx) hb') (e1.trans e2) _ (.exc1 hmC (fun z => (hs1.mem z).1 hb) upd_same (fun z => (hs1.mem z).1 hdx) ?_ (rv.ext (e1.trans e2)))
        rw [upd_ne hne]
        exact upd_same
  | none =>
    by_cases hglb : (T.glb.lookup x).isSome = true
    · refine PE.no fun σ H Q h => ?_
      obtain ⟨ρ, st, env, hs, he, ha⟩ := h
      have ha' : After X.K X.mg ρ H (callE T r c (.Name x p) args env st) _ _ := ha
      unfold callE at ha'
      simp only [if_pos hg, hE', if_pos hglb] at ha'
      exact ha'
    cases hF : T.fns.lookup x with
    | some F =>
      obtain ⟨hd, hnb, f, fd, hm, hfun, hsc, hbi⟩ := g.funs.fns x F hF
      have fok : FnG X.prog X.w X.K X.mg X.base (L2.CX X.prog X.w) n f fd F.ps (spI X.K X.mg r x F.ps.length) := S.call X.prog X.w X.K X.mg X.base g.glb g.funs g.exs x F f fd hF hfun
      have conv : ∀ σ H Q, tE X W (step T r) c (.Call (.Name x p) args [] pos) σ H Q → tCallG (spI X.K X.mg r x F.ps.length) (fun cv dx H => ∀ σ, W cv dx σ H) (tA X W r c args) σ H Q := fun σ H Q h => by
        obtain ⟨ρ, st, env, hs, he, ha⟩ := h
        have ha' : After X.K X.mg ρ H (callE T r c (.Name x p) args env st) _ _ := ha
        unfold callE at ha'
        simp only [if_pos hg, hE', if_neg hglb, hF] at ha'
        refine ⟨ρ, st, env, hs, he, ha'.first.mono fun ds ρ1 st1 H1 hs1 hx1 hk vs rvs => ?_⟩
        dsimp only
        by_cases hl : ds.length = F.ps.length
        · rw [if_pos hl] at hk
          refine ⟨ρ1, st1, ds, hs1, rvs, hl, ?_⟩
          cases hc : r.call x ds st1 with
          | ok d st2 => rw [hc] at hk; exact hk
          | err e fs st2 => rw [hc] at hk; exact fun ρ' H' a b cv dx ex σ' => hk ρ' H' a b cv dx σ' ex
          | bad => rw [hc] at hk; exact hk
        · rw [if_neg hl] at hk
          exact hk.elim
      have hps : Passes (L2.CX X.prog X.w) X (fun cv dx H => ∀ σ, W cv dx σ H) := passes_call g.tk fun cls d σ H h => h σ
      cases args with
      | nil =>
        refine PE.mono (pe_callG0 fok (hr.mono (Nat.le_succ n)) g.gd gl hm hfun.kp hbi hps hd) fun σ H Q h => ?_
        obtain ⟨ρ, st, env, hs, he, ha⟩ := conv σ H Q h
        exact (show After _ _ _ _ (R.ok [] st) _ _ from ha).okv hs [] .nil
      | cons a as =>
        have h1 : isStar a = false := by
          unfold noStar at hns
          rw [List.all_cons] at hns
          simpa using (Bool.and_eq_true_iff.mp hns).1
        have h2 : noStar as = true := by
          unfold noStar at hns
          rw [List.all_cons] at hns
          exact (Bool.and_eq_true_iff.mp hns).2
        exact PE.mono (pe_callG fok (hr.mono (Nat.le_succ n)) g.gd gl hm hfun.kp hbi hps hA hd (isStar_of h1) (plain_of h2)) conv
    | none =>
      by_cases hb : T.blt.contains x = true
      rotate_left
      · refine PE.no fun σ H Q h => ?_
        obtain ⟨ρ, st, env, hs, he, ha⟩ := h
        have ha' : After X.K X.mg ρ H (callE T r c (.Name x p) args env st) _ _ := ha
        unfold callE at ha'
        simp only [if_pos hg, hE', if_neg hglb, hF, if_neg hb] at ha'
        exact ha'
      obtain ⟨hm, hn, hd⟩ := g.glb.blt x hb
      have conv : ∀ {f : List D → Store → Option (D × Store)}, (∀ env st, callE T r c (.Name x p) args env st = (argsE r c args env st).bind fun ds st => lft (f ds st)) → ∀ σ H Q, tE X W (step T r) c (.Call (.Name x p) args [] pos) σ H Q → tCB (rFn X.K X.mg f) (tA X W r c args) σ H Q := fun {f} hf σ H Q h => by
        obtain ⟨ρ, st, env, hs, he, ha⟩ := h
        have ha' : After X.K X.mg ρ H (callE T r c (.Name x p) args env st) _ _ := ha
        rw [hf] at ha'
        refine ⟨ρ, st, env, hs, he, ha'.first.mono fun ds ρ1 st1 H1 hs1 hx1 hk vs rvs => ?_⟩
        exact ⟨ρ1, st1, ds, hs1, rvs, lft_res hk⟩
      cases h1 : bltFn T x with
      | some f =>
        have hf : ∀ env st, callE T r c (.Name x p) args env st = (argsE r c args env st).bind fun ds st => lft (f ds st) := fun env st => by
          unfold callE
          simp only [if_pos hg, hE', if_neg hglb, hF, if_pos hb, h1]
        obtain ⟨id, hv, _, _, hc⟩ := blt_fn (X := X) g.exs g.gd g.units (g.calm hcm) h1
        cases args with
        | nil =>
          refine PE.no fun σ H Q h => ?_
          obtain ⟨ρ, st, env, hs, he, ha⟩ := conv hf σ H Q h
          have q := (show After _ _ _ _ (R.ok [] st) _ _ from ha).okv hs [] .nil
          obtain ⟨ρ1, st1, ds, hs1, rd, res⟩ := q
          cases rd
          rw [blt_nil h1] at res
          exact res.none
        | cons a as =>
          have hs1 : isStar a = false := by
            unfold noStar at hns
            rw [List.all_cons] at hns
            simpa using (Bool.and_eq_true_iff.mp hns).1
          have hs2 : noStar as = true := by
            unfold noStar at hns
            rw [List.all_cons] at hns
            exact (Bool.and_eq_true_iff.mp hns).2
          exact PE.mono (pe_callB hc gl hm hv hA hn hd (isStar_of hs1) (plain_of hs2)) (conv hf)
      | none =>
        cases h2 : bltCls x with
        | some f =>
          have hf : ∀ env st, callE T r c (.Name x p) args env st = (argsE r c args env st).bind fun ds st => lft (f ds st) := fun env st => by
            unfold callE
            simp only [if_pos hg, hE', if_neg hglb, hF, if_pos hb, h1, h2]
          obtain ⟨id, hv, _, _, hc⟩ := blt_cls (X := X) (g.calm hcm) h2
          cases args with
          | nil =>
            refine PE.mono (pe_callTy0 hc gl hm hv hn hd) fun σ H Q h => ?_
            obtain ⟨ρ, st, env, hs, he, ha⟩ := conv hf σ H Q h
            exact (show After _ _ _ _ (R.ok [] st) _ _ from ha).okv hs [] .nil
          | cons a as =>
            have hs1 : isStar a = false := by
              unfold noStar at hns
              rw [List.all_cons] at hns
              simpa using (Bool.and_eq_true_iff.mp hns).1
            have hs2 : noStar as = true := by
              unfold noStar at hns
              rw [List.all_cons] at hns
              exact (Bool.and_eq_true_iff.mp hns).2
            exact PE.mono (pe_callTy hc gl hm hv hA hn hd (isStar_of hs1) (plain_of hs2)) (conv hf)
        | none =>
          refine PE.no fun σ H Q h => ?_
          obtain ⟨ρ, st, env, hs, he, ha⟩ := h
          have ha' : After X.K X.mg ρ H (callE T r c (.Name x p) args env st) _ _ := ha
          unfold callE at ha'
          simp only [if_pos hg, hE', if_neg hglb, hF, if_pos hb, h1, h2] at ha'
          exact ha'
end
end Nd
end

section
set_option Elab.async false
set_option linter.all false
set_option maxRecDepth 100000
/-! NdT: targets, what is walked, comprehensions. -/
namespace Nd
open PySem PySem.Spec PyProof.Rows L2
section
variable {T : Tab} {n : Nat} {r : Sys} {c : Cc} {X : Cx} {W : WX}

/-! ### targets -/
/-- slots but these stay -/
def Only (c : Cc) (xs : List Str) (σ σ' : L2.St) : Prop := σ'.length = σ.length ∧ ∀ i : Nat, (∀ x ∈ xs, tslot c x ≠ some i) → σ'[i]? = σ[i]?
theorem Only.nil {c : Cc} {xs : List Str} {σ : L2.St} : Only c xs σ σ := ⟨rfl, fun _ _ => rfl⟩
theorem Only.set {c : Cc} {x : Str} {i : Nat} {v : Option V} {σ : L2.St} (h : tslot c x = some i) : Only c [x] σ (σ.set i v) := ⟨by simp, fun j hj => by
  have hij : i ≠ j := fun e => hj x (by simp) (by rw [h, e])
  rw [List.getElem?_set_ne hij]⟩
theorem Only.cons {c : Cc} {x : Str} {xs : List Str} {σ σ' σ'' : L2.St} (a : Only c [x] σ σ') (b : Only c xs σ' σ'') : Only c (x :: xs) σ σ'' := ⟨b.1.trans a.1, fun j hj => (b.2 j fun y hy => hj y (List.mem_cons_of_mem _ hy)).trans (a.2 j fun y hy => hj y (by rw [List.mem_singleton.mp hy]; exact List.mem_cons_self))⟩
def tG (X : Cx) (c : Cc) (tg : PySem.Expr) : TG := fun v σ H Q => ∃ ρ st env d env', Sim X.K X.mg ρ st H ∧ EnvR X.K X.mg ρ H env σ ∧ Rep X.K X.mg ρ H d v ∧ bindT c tg d env = some env' ∧ ∀ σ', EnvR X.K X.mg ρ H env' σ' → (∀ xs, tgNames tg = some xs → Only c xs σ σ') → Q σ' H
def tGs (X : Cx) (c : Cc) (xs : List Str) : TGs := fun vs σ H Q => ∃ ρ st env ds env', Sim X.K X.mg ρ st H ∧ EnvR X.K X.mg ρ H env σ ∧ RepL X.K X.mg ρ H ds vs ∧ setAll c xs ds env = some env' ∧ ∀ σ', EnvR X.K X.mg ρ H env' σ' → Only c xs σ σ' → Q σ' H
theorem PG.mono {e : PySem.Expr} {t t' : TG} (h : PG X e t) (k : ∀ v σ H Q, t' v σ H Q → t v σ H Q) : PG X e t' := ⟨fun pins s σ H v u Q I r q => h.run pins s σ H v u Q I r (k v σ H Q q)⟩
theorem PG.no {e : PySem.Expr} {t : TG} (k : ∀ v σ H Q, ¬ t v σ H Q) : PG X e t := ⟨fun pins s σ H v u Q I r q => (k v σ H Q q).elim⟩
theorem PGs.mono {es : List PySem.Expr} {t t' : TGs} (h : PGs X es t) (k : ∀ v σ H Q, t' v σ H Q → t v σ H Q) : PGs X es t' := ⟨fun pins s σ H v u Q I r q => h.run pins s σ H v u Q I r (k v σ H Q q)⟩
theorem PGs.no {es : List PySem.Expr} {t : TGs} (k : ∀ v σ H Q, ¬ t v σ H Q) : PGs X es t := ⟨fun pins s σ H v u Q I r q => (k v σ H Q q).elim⟩
theorem g_names (g : Good T n c X W) : ∀ (es : List PySem.Expr) (xs : List Str), tnames es = some xs → PGs X es (tGs X c xs) ∧ (assignEach es X.env).length = xs.length ∧ (assignEach es X.env).findIdx? (·.1) = none
  | [], xs, h => by
    cases h
    refine ⟨PGs.mono pgs_nil fun vs σ H Q ⟨ρ, st, env, ds, env', hs, he, hd, hb, q⟩ => ?_, rfl, rfl⟩
    cases hd with
    | nil =>
      cases hb
      exact ⟨rfl, q σ he Only.nil⟩
    | cons _ _ => cases hb
  | e :: es, xs, h => by
    by_cases hn : ∃ x p, e = .Name x p
    · obtain ⟨x, p, rfl⟩ := hn
      obtain ⟨ys, h1, e1⟩ := Option.map_eq_some_iff.mp (show (tnames es).map (x :: ·) = some xs from h)
      subst e1
      obtain ⟨ih, il, ii⟩ := g_names g es ys h1
      refine ⟨?_, by show (assignEach es X.env).length + 1 = _; rw [il]; rfl, by
        show List.findIdx? _ ((false, assign (.Name x p) X.env) :: assignEach es X.env) = none
        rw [List.findIdx?_cons]
        simp [ii]⟩
      cases ht : tslot c x with
      | none =>
        refine PGs.no fun vs σ H Q ⟨ρ, st, env, ds, env', hs, he, hd, hb, q⟩ => ?_
        cases ds with
        | nil => cases hb
        | cons d ds =>
          unfold setAll at hb
          rw [ht] at hb
          cases hb
      | some i =>
        obtain ⟨h2, h3, h4⟩ := tslot_some g ht
        refine PGs.mono (pgs_cons (pg_name (i := i) (by rw [g.N]; exact g.nd) h2 h3 h4) ih) fun vs σ H Q ⟨ρ, st, env, ds, env', hs, he, hd, hb, q⟩ => ?_
        cases hd with
        | nil => cases hb
        | @cons d v ds vs rd rds =>
          unfold setAll at hb
          rw [ht] at hb
          exact ⟨v, vs, rfl, ρ, st, env.set i (some d), ds, env', hs, he.set i rd, rds, hb, fun σ' h1 h2 => q σ' h1 ((Only.set ht).cons h2)⟩
    · exfalso
      cases e <;> first | exact hn ⟨_, _, rfl⟩ | cases h
theorem g_target (g : Good T n c X W) (tg : PySem.Expr) : PG X tg (tG X c tg) := by
  cases tg with
  | Name x p =>
    cases ht : tslot c x with
    | none =>
      refine PG.no fun v σ H Q ⟨ρ, st, env, d, env', hs, he, hd, hb, q⟩ => ?_
      unfold bindT at hb
      simp only [ht] at hb
      cases hb
    | some i =>
      obtain ⟨h2, h3, h4⟩ := tslot_some g ht
      refine PG.mono (pg_name (i := i) (by rw [g.N]; exact g.nd) h2 h3 h4) fun v σ H Q ⟨ρ, st, env, d, env', hs, he, hd, hb, q⟩ => ?_
      unfold bindT at hb
      simp only [ht] at hb
      cases hb
      exact q _ (he.set i hd) fun xs e => by cases e; exact Only.set ht
  | Tuple es k p =>
    by_cases hc : c.calm = true
    rotate_left
    · refine PG.no fun v σ H Q ⟨ρ, st, env, d, env', hs, he, hd, hb, q⟩ => ?_
      unfold bindT at hb
      simp only [if_neg hc] at hb
      cases hb
    cases hx : tnames es with
    | none =>
      refine PG.no fun v σ H Q ⟨ρ, st, env, d, env', hs, he, hd, hb, q⟩ => ?_
      unfold bindT at hb
      simp only [if_pos hc, hx] at hb
      cases hb
    | some xs =>
      obtain ⟨ih, il, ii⟩ := g_names g es xs hx
      refine PG.mono (pg_tup (g.calm hc) ih il ii) fun v σ H Q ⟨ρ, st, env, d, env', hs, he, hd, hb, q⟩ => ?_
      unfold bindT at hb
      simp only [if_pos hc, hx] at hb
      cases hd with
      | @tup l a ys hq rl =>
        have hb' : setAll c xs l env = some env' := hb
        have hlen : ∀ (xs : List Str) (l : List D) (env env' : Env), setAll c xs l env = some env' → l.length = xs.length := by
          intro xs
          induction xs with
          | nil => intro l env env' h; cases l with | nil => rfl | cons _ _ => cases h
          | cons x xs ih =>
            intro l env env' h
            cases l with
            | nil => cases h
            | cons d l =>
              unfold setAll at h
              split at h
              · rw [List.length_cons, List.length_cons, ih _ _ _ h]
              · cases h
        exact ⟨a, ys, rfl, hq, by rw [← rl.length]; exact hlen _ _ _ _ hb', ρ, st, env, l, env', hs, he, rl, hb', fun σ' h1 h2 => q σ' h1 fun zs e => by
          have e' : tnames es = some zs := e
          rw [hx] at e'
          cases e'
          exact h2⟩
      | _ => cases hb
  | _ =>
    refine PG.no fun v σ H Q ⟨ρ, st, env, d, env', hs, he, hd, hb, q⟩ => ?_
    cases hb

/-! ### what is walked -/
def iSeq (K : PySem.W.Frag) (tl : TE) : TI := fun σ H R => tl σ H fun x H1 => ∃ a, x = .ref a ∧ (((∃ xs, SqT K H1 a xs) ∧ R (Itt K a) H1) ∨ ((∃ xs, SqL K H1 a xs) ∧ R (Itl K a) H1))
theorem pi_seq {tg l : PySem.Expr} {tl : TE} (hl : PE X l tl) : PI X tg l (iSeq X.K tl) := by
  refine ⟨fun pins s σ H R I h => ?_⟩
  refine thn (hl.run pins s σ H _ I h) fun v s1 ⟨x, H1, I1, r1, q1⟩ => ?_
  obtain ⟨a, e, q1⟩ := q1
  subst e
  cases r1
  rcases q1 with ⟨⟨xs, hq⟩, q⟩ | ⟨⟨xs, hq⟩, q⟩
  · obtain ⟨its, rv, p, hz⟩ := I1.tuple hq
    refine wpAny_pyIter_tuple (show s1.heap.IsTuple a its.toArray from p) ?_
    refine ⟨s1.heap.objs.size, [s1.heap.objs.size], _, _, H1, rfl, I1.kept (t' := s1.toks) fun b o e => Heap.get?_push_of_some _ e, turn_tuple a _, ⟨_, Heap.get?_push_size _ rfl, rfl, rfl⟩, fun b hb => ?_, q⟩
    have e : b = s1.heap.objs.size := by simpa using hb
    subst e
    exact I1.fpOk (Nat.le_refl _) (I1.hok.fresh (Nat.le_refl _))
  · obtain ⟨its, rv, p, hz⟩ := I1.list hq
    refine wpAny_pyIter_list p.isList ?_
    refine ⟨s1.heap.objs.size, [s1.heap.objs.size], _, _, H1, rfl, I1.kept (t' := s1.toks) fun b o e => Heap.get?_push_of_some _ e, turn_list a _, ⟨_, Heap.get?_push_size _ rfl, rfl, rfl⟩, fun b hb => ?_, q⟩
    have e : b = s1.heap.objs.size := by simpa using hb
    subst e
    exact I1.fpOk (Nat.le_refl _) (I1.hok.fresh (Nat.le_refl _))
theorem PI.mono {tg l : PySem.Expr} {t t' : TI} (h : PI X tg l t) (k : ∀ σ H R, t' σ H R → t σ H R) : PI X tg l t' := ⟨fun pins s σ H R I q => h.run pins s σ H R I (k σ H R q)⟩
/-- an iterator and what the interpreter walks -/
structure Walks (X : Cx) (J : It) (ρ : List Addr) (H : Hp) (l : List D) : Prop where
  go : ∀ {ρ' H'}, Ext ρ H ρ' H' → ∀ i, i < l.length → J.go i H'
  stop : ∀ {ρ' H'}, Ext ρ H ρ' H' → ∀ i, l.length ≤ i → J.stop i H'
  yld : ∀ {ρ' H'}, Ext ρ H ρ' H' → ∀ (i : Nat) d x H2, l[i]? = some d → J.yld i H' x H2 → H2 = H' ∧ Rep X.K X.mg ρ' H' d x
theorem walks_tup {ρ : List Addr} {H : Hp} {a : Addr} {xs : List V} {l : List D} (hq : SqT X.K H a xs) (rl : RepL X.K X.mg ρ H l xs) : Walks X (Itt X.K a) ρ H l where
  go := fun e i hi => ⟨xs, xs[i]'(by rw [← rl.length]; exact hi), e.sqt hq, List.getElem?_eq_getElem _⟩
  stop := fun e i hi => ⟨xs, e.sqt hq, by rw [← rl.length]; exact hi⟩
  yld := fun e i d x H2 hd hy => by
    obtain ⟨e1, hy⟩ := hy
    obtain ⟨v, h1, h2⟩ := (rl.ext e).get hd
    have h3 := hy xs (e.sqt hq)
    rw [h3] at h1
    cases h1
    exact ⟨e1, h2⟩
theorem walks_fro {ρ : List Addr} {H : Hp} {a : Addr} {xs : List V} {l : List D} (hq : SqF X.K H a xs) (rl : RepL X.K X.mg ρ H l xs) : Walks X (Itl X.K a) ρ H l where
  go := fun e i hi => ⟨xs, xs[i]'(by rw [← rl.length]; exact hi), (e.sqf hq).sql, List.getElem?_eq_getElem _⟩
  stop := fun e i hi => ⟨xs, (e.sqf hq).sql, by rw [← rl.length]; exact hi⟩
  yld := fun e i d x H2 hd hy => by
    obtain ⟨e1, hy⟩ := hy
    obtain ⟨v, h1, h2⟩ := (rl.ext e).get hd
    have h3 := hy xs (e.sqf hq).sql
    rw [h3] at h1
    cases h1
    exact ⟨e1, h2⟩
theorem rngL_get {lo : Int} {n i : Nat} {d : D} (h : (rngL lo n)[i]? = some d) : d = .int (lo + i) ∧ i < n := by
  unfold rngL at h
  rw [List.getElem?_map] at h
  obtain ⟨k, h1, h2⟩ := Option.map_eq_some_iff.mp h
  obtain ⟨h3, h4⟩ := List.getElem?_eq_some_iff.mp h1
  rw [List.getElem_range] at h4
  subst h4
  rw [List.length_range] at h3
  exact ⟨h2.symm, h3⟩
theorem rngL_length (lo : Int) (n : Nat) : (rngL lo n).length = n := by simp [rngL]
theorem walks_rng {ρ : List Addr} {H : Hp} (lo : Int) (n : Nat) : Walks X (Itr lo n) ρ H (rngL lo n) where
  go := fun e i hi => by rw [rngL_length] at hi; exact hi
  stop := fun e i hi => by rw [rngL_length] at hi; exact hi
  yld := fun e i d x H2 hd hy => by
    obtain ⟨e1, hy⟩ := hy
    obtain ⟨h1, _⟩ := rngL_get hd
    subst h1 hy
    exact ⟨e1, .int _⟩
/-- the reading of what is walked: J for the list -/
def WkR (X : Cx) (ρ : List Addr) (H : Hp) (J : It) : Wk → Prop
  | .items l => Walks X J ρ H l
  | .lst n => ∃ a, ρ[n]? = some a ∧ J = Itl X.K a
def tI (T : Tab) (X : Cx) (W : WX) (r : Sys) (c : Cc) (iter : PySem.Expr) : TI := fun σ H R => ∃ ρ st env, Sim X.K X.mg ρ st H ∧ EnvR X.K X.mg ρ H env σ ∧
  After X.K X.mg ρ H (walkE T r c iter env st) (fun w ρ' _ H' => ∀ J, WkR X ρ' H' J w → R J H') (EW X W)
theorem i_gen (g : Good T (n + 1) c X W) (S : Sound T r n) (tg iter : PySem.Expr) (h : ∀ env st, walkE T r c iter env st = (r.E c iter env st).bind fun d st => owk (walk st d) st) : PI X tg iter (tI T X W r c iter) := by
  refine PI.mono (pi_seq (S.ex c X W g.down iter)) fun σ H Rw ⟨ρ, st, env, hs, he, ha⟩ => ?_
  rw [h] at ha
  refine ⟨ρ, st, env, hs, he, ha.first.mono fun d ρ1 st1 H1 hs1 hx1 hk v rv => ?_⟩
  cases rv with
  | tup hq rl => exact ⟨_, rfl, .inl ⟨⟨_, hq⟩, (show After _ _ _ _ (R.ok (Wk.items _) st1) _ _ from hk).okv hs1 _ (walks_tup hq rl)⟩⟩
  | fro hq rl => exact ⟨_, rfl, .inr ⟨⟨_, hq.sql⟩, (show After _ _ _ _ (R.ok (Wk.items _) st1) _ _ from hk).okv hs1 _ (walks_fro hq rl)⟩⟩
  | @ref m a ha =>
    have hk' : After X.K X.mg ρ1 H1 (owk ((listAt st1 m).map fun _ => Wk.lst m) st1) _ _ := hk
    cases hl : listAt st1 m with
    | none => rw [hl] at hk'; exact hk'.elim
    | some l =>
      rw [hl] at hk'
      obtain ⟨xs, e, _⟩ := hs1.list hl ha
      exact ⟨a, rfl, .inr ⟨⟨xs, .of e⟩, (show After _ _ _ _ (R.ok (Wk.lst m) st1) _ _ from hk').okv hs1 _ ⟨a, ha, rfl⟩⟩⟩
  | _ => exact hk.elim
theorem rngOk_iff {i : Int} (h : rngOk i = true) : -(2 ^ 62) ≤ i ∧ i < 2 ^ 62 := by
  unfold rngOk at h
  obtain ⟨h1, h2⟩ := Bool.and_eq_true_iff.mp h
  exact ⟨of_decide_eq_true h1, of_decide_eq_true h2⟩
theorem bind_ok {α β : Type} {m : R α} {f : α → Store → R β} {b : β} {st : Store} (h : m.bind f = .ok b st) : ∃ a st', m = .ok a st' ∧ f a st' = .ok b st := by
  cases m with
  | ok a st' => exact ⟨a, st', rfl, h⟩
  | err _ _ _ => cases h
  | bad => cases h
theorem argsE_len : ∀ {es : List PySem.Expr} {env : Env} {st st' : Store} {ds : List D}, argsE r c es env st = .ok ds st' → ds.length = es.length
  | [], _, _, _, _, h => by cases h; rfl
  | e :: es, env, st, st', ds, h => by
    unfold argsE at h
    split at h
    · cases h
    · obtain ⟨d, st1, _, h2⟩ := bind_ok h
      obtain ⟨ds', st2, h3, h4⟩ := bind_ok h2
      cases h4
      rw [List.length_cons, List.length_cons, argsE_len h3]
theorem noStar_cons {e : PySem.Expr} {es : List PySem.Expr} (h : noStar (e :: es) = true) : isStar e = false ∧ noStar es = true := by
  unfold noStar at h
  rw [List.all_cons] at h
  obtain ⟨h1, h2⟩ := Bool.and_eq_true_iff.mp h
  exact ⟨by simpa using h1, h2⟩
theorem i_walk (g : Good T (n + 1) c X W) (S : Sound T r n) (tg iter : PySem.Expr) : PI X tg iter (tI T X W r c iter) := by
  by_cases hf : ∃ x p args q, iter = .Call (.Name x p) args [] q
  rotate_left
  · refine i_gen g S tg iter fun env st => ?_
    unfold walkE
    split
    · exact absurd ⟨_, _, _, _, rfl⟩ hf
    · rfl
  obtain ⟨x, p, args, q, rfl⟩ := hf
  by_cases hx : isRange T c x args = true
  rotate_left
  · refine i_gen g S tg _ fun env st => ?_
    unfold walkE
    simp only [if_neg hx]
  have hw : ∀ env st, walkE T r c (.Call (.Name x p) args [] q) env st = (argsE r c args env st).bind fun ds st => owk (rngW ds) st := fun env st => by
    unfold walkE
    simp only [if_pos hx]
  unfold isRange at hx
  simp only [Bool.and_eq_true, decide_eq_true_eq] at hx
  obtain ⟨⟨⟨⟨⟨⟨rfl, hg⟩, hb⟩, _⟩, _⟩, hns⟩, hlen⟩ := hx
  have gl := isGlob_gl g hg
  obtain ⟨hm, _, _⟩ := g.glb.blt _ hb
  have hE := S.ex c X W g.down
  have hA := a_args (c := c) hE args
  match args, hw, hA, hns, hlen with
  | [], _, _, _, hlen => simp at hlen
  | [a], hw, hA, hns, _ =>
    refine PI.mono (pi_range1 gl hm hA (isStar_of (es := []) (noStar_cons hns).1)) fun σ H Rw ⟨ρ, st, env, hs, he, ha⟩ => ?_
    rw [hw] at ha
    refine ⟨ρ, st, env, hs, he, ha.first.monoEq fun ds ρ1 st1 H1 heq hs1 hx1 hk vs rvs => ?_⟩
    have hl := argsE_len heq
    match ds, rvs, hk, hl with
    | [], _, _, hl => simp at hl
    | _ :: _ :: _, _, _, hl => simp at hl
    | [d], .cons rd .nil, hk, _ =>
      cases rd with
      | int j =>
        have hk' : After X.K X.mg ρ1 H1 (owk (if rngOk j = true then some (.items (rngL 0 j.toNat)) else none) st1) _ _ := hk
        by_cases hz : rngOk j = true
        · rw [if_pos hz] at hk'
          obtain ⟨z1, z2⟩ := rngOk_iff hz
          exact ⟨j, rfl, z1, z2, (show After _ _ _ _ (R.ok (Wk.items _) st1) _ _ from hk').okv hs1 _ (walks_rng 0 j.toNat)⟩
        · rw [if_neg hz] at hk'
          exact hk'.elim
      | _ => exact hk.elim
  | [a, b], hw, hA, hns, _ =>
    have h2 := noStar_cons hns
    have h3 := noStar_cons h2.2
    refine PI.mono (pi_range2 gl hm hA (by rw [isStar_of h2.1, isStar_of (es := []) h3.1]; rfl) (isStar_of (es := []) h3.1)) fun σ H Rw ⟨ρ, st, env, hs, he, ha⟩ => ?_
    rw [hw] at ha
    refine ⟨ρ, st, env, hs, he, ha.first.monoEq fun ds ρ1 st1 H1 heq hs1 hx1 hk vs rvs => ?_⟩
    have hl := argsE_len heq
    match ds, rvs, hk, hl with
    | [], _, _, hl => simp at hl
    | [_], _, _, hl => simp at hl
    | _ :: _ :: _ :: _, _, _, hl => simp at hl
    | [d, e], .cons rd (.cons re .nil), hk, _ =>
      cases rd with
      | int i =>
        cases re with
        | int j =>
          have hk' : After X.K X.mg ρ1 H1 (owk (if rngOk i = true ∧ rngOk j = true then some (.items (rngL i (j - i).toNat)) else none) st1) _ _ := hk
          by_cases hz : rngOk i = true ∧ rngOk j = true
          · rw [if_pos hz] at hk'
            obtain ⟨z1, z2⟩ := rngOk_iff hz.1
            obtain ⟨z3, z4⟩ := rngOk_iff hz.2
            exact ⟨i, j, rfl, ⟨z1, z2, z3, z4⟩, (show After _ _ _ _ (R.ok (Wk.items _) st1) _ _ from hk').okv hs1 _ (walks_rng i _)⟩
          · rw [if_neg hz] at hk'
            exact hk'.elim
        | _ => exact hk.elim
      | _ => cases re <;> exact hk.elim
  | _ :: _ :: _ :: _, _, _, _, hlen => simp at hlen


/-! ### comprehensions -/
theorem bind_assoc {α β γ : Type} (m : R α) (f : α → Store → R β) (g : β → Store → R γ) : (m.bind f).bind g = m.bind fun a st => (f a st).bind g := by cases m <;> rfl
theorem noErr_after {α : Type} {K : PySem.W.Frag} {mg : Str → Option Value} {ρ ρ' : List Addr} {H H' : Hp} {m : R α} {Q : α → List Addr → Store → Hp → Prop} {E E' : D → List (Str × D) → List Addr → Store → Hp → Prop}
    (h : After K mg ρ H (noErr m) Q E) (e : Ext ρ H ρ' H') : After K mg ρ' H' m Q E' := by
  cases m with
  | ok a st => exact fun ρ2 H2 s x => h ρ2 H2 s (e.trans x)
  | err _ _ _ => exact h.elim
  | bad => exact h.elim
theorem wipe_get {σ : L2.St} {i : Nat} : ∀ {vs : List Nat}, (wipe σ vs)[i]? = if i ∈ vs then (σ[i]?).map fun _ => none else σ[i]?
  | [] => by simp [wipe]
  | v :: vs => by
    unfold wipe
    have ih := wipe_get (σ := σ) (i := i) (vs := vs)
    by_cases hv : v = i
    · subst hv
      rw [if_pos List.mem_cons_self]
      by_cases hl : v < σ.length
      · rw [List.getElem?_set_self (by rw [wipe_length]; exact hl), List.getElem?_eq_getElem hl]
        rfl
      · rw [List.getElem?_eq_none (by rw [List.length_set, wipe_length]; omega), List.getElem?_eq_none (by omega)]
        rfl
    · rw [List.getElem?_set_ne hv, ih]
      by_cases hm : i ∈ vs
      · rw [if_pos hm, if_pos (List.mem_cons_of_mem _ hm)]
      · rw [if_neg hm, if_neg fun z => (List.mem_cons.mp z).elim (fun e => hv e.symm) hm]
theorem wipe_env {K : PySem.W.Frag} {mg : Str → Option Value} {ρ : List Addr} {H : Hp} {env : Env} {σ : L2.St} (he : EnvR K mg ρ H env σ) : ∀ vs : List Nat, EnvR K mg ρ H (wipeE env vs) (wipe σ vs)
  | [] => he
  | v :: vs => by
    have ih := wipe_env he vs
    unfold wipeE wipe
    refine ⟨by simp [ih.len], fun i d h => ?_⟩
    by_cases hv : v = i
    · subst hv
      have hl := (List.getElem?_eq_some_iff.mp h).1
      rw [List.getElem?_set_self (by simpa using hl)] at h
      cases h
    · rw [List.getElem?_set_ne hv] at h ⊢
      exact ih.at_ i d h
theorem slots_mem {N : List Str} : ∀ {xs : List Str} {own : List (Str × Nat)}, slots N xs = some own → ∀ x ∈ xs, ∀ i, ixOf N x = some i → i ∈ own.map (·.2)
  | [], _, _, x, hx, _, _ => by simp at hx
  | y :: ys, own, h, x, hx, i, hi => by
    unfold slots at h
    split at h
    · rename_i j l h1 h2
      cases h
      rcases List.mem_cons.mp hx with e | hx
      · subst e
        rw [hi] at h1
        cases h1
        simp
      · exact List.mem_cons_of_mem _ (slots_mem h2 x hx i hi)
    · cases h
theorem tslot_ix {c : Cc} {x : Str} {i : Nat} (h : tslot c x = some i) : ixOf c.N x = some i := by
  unfold tslot at h
  split at h
  · exact h
  · split at h
    · exact h
    · cases h
  · cases h
theorem wipe_only {c : Cc} {scope : Scope} {xs : List Str} {own : List (Str × Nat)} {σ σ2 : L2.St} (hs : slots c.N xs = some own) (o : Only (blkOf c scope) xs (wipe σ (own.map (·.2))) σ2) : wipe σ2 (own.map (·.2)) = wipe σ (own.map (·.2)) := by
  refine List.ext_getElem? fun i => ?_
  rw [wipe_get]
  by_cases hm : i ∈ own.map (·.2)
  · rw [if_pos hm]
    have hl : σ2.length = σ.length := by rw [o.1, wipe_length]
    rw [wipe_get, if_pos hm]
    by_cases hi : i < σ.length
    · rw [List.getElem?_eq_getElem (by omega), List.getElem?_eq_getElem hi]
      rfl
    · rw [List.getElem?_eq_none (by omega), List.getElem?_eq_none (by omega)]
  · rw [if_neg hm]
    exact o.2 i fun x hx e => hm (slots_mem hs x hx i (tslot_ix (c := blkOf c scope) e))
/-- the list that a comprehension fills -/
structure CInv (X : Cx) (ρ1 : List Addr) (H1 : Hp) (Dd : Addr) (acc : List D) (ρ : List Addr) (st : Store) (H : Hp) : Prop where
  ext : Ext ρ1 H1 ρ H
  sim : Sim X.K X.mg ρ st H
  out : Dd ∉ ρ
  at_ : ∃ xs, H Dd = some (.lst xs) ∧ RepL X.K X.mg ρ H acc xs
theorem CInv.start {ρ : List Addr} {st : Store} {H : Hp} {Dd : Addr} (hs : Sim X.K X.mg ρ st H) (hD : H Dd = none) : CInv X ρ H Dd [] ρ st (upd H Dd (.lst [])) :=
  ⟨ext_new hD, sim_new hs hD, fun z => (hs.mem z).1 hD, [], upd_same, .nil⟩
theorem CInv.step {ρ1 ρ ρ' : List Addr} {st st' : Store} {H1 H H' : Hp} {Dd : Addr} {acc : List D} (h : CInv X ρ1 H1 Dd acc ρ st H) (hs : Sim X.K X.mg ρ' st' H') (hx : Ext ρ H ρ' H') : CInv X ρ1 H1 Dd acc ρ' st' H' := by
  obtain ⟨xs, e, rl⟩ := h.at_
  refine ⟨h.ext.trans hx, hs, fun z => ?_, xs, hx.out _ _ e h.out, rl.ext hx⟩
  obtain ⟨more, em, hm⟩ := hx.pre
  rw [em] at z
  rcases List.mem_append.mp z with z | z
  · exact h.out z
  · rw [hm _ z] at e; cases e
theorem CInv.app {ρ1 ρ : List Addr} {st : Store} {H1 H : Hp} {Dd : Addr} {acc : List D} (h : CInv X ρ1 H1 Dd acc ρ st H) (hD : H1 Dd = none) {y : D} {v : V} (ry : Rep X.K X.mg ρ H y v) :
    ∃ xs, H Dd = some (.lst xs) ∧ xs.length = acc.length ∧ CInv X ρ1 H1 Dd (acc ++ [y]) ρ st (upd H Dd (.lst (xs ++ [v]))) := by
  obtain ⟨xs, e, rl⟩ := h.at_
  have nt : ∀ a, a ≠ Dd → upd H Dd (.lst (xs ++ [v])) a = H a := fun a n => upd_ne n
  have kp : Kp ρ H ρ (upd H Dd (.lst (xs ++ [v]))) := ⟨fun e => e, fun a ys q => by rw [nt a fun z => by rw [z, e] at q; cases q]; exact q, fun a o u q => by rw [nt a fun z => by rw [z, e] at q; cases q]; exact q, fun a ha q => ⟨ha, by
    rw [nt a fun z => by
      rw [z] at q
      rcases q with ⟨_, q⟩ | ⟨_, q⟩ <;> rw [e] at q <;> cases q]⟩⟩
  refine ⟨xs, e, rl.length.symm, ⟨h.ext.pre, fun a o q hn => ?_, fun a ys q => ?_, fun a o u q => ?_, fun a q => ?_⟩, ⟨h.sim.len, h.sim.nd, fun n a o h1 h2 => ?_⟩, h.out, xs ++ [v], upd_same, (rl.kp kp).append (.cons (ry.kp kp) .nil)⟩
  · rw [nt a (ne_of_none q hD)]; exact h.ext.out a o q hn
  · rw [nt a (ne_of_none q hD)]; exact h.ext.tup a ys q
  · rw [nt a (ne_of_none q hD)]; exact h.ext.frz a o u q
  · by_cases z : a = Dd
    · rw [z, upd_same]; simp
    · rw [nt a z]; exact h.ext.trk a q
  · exact (h.sim.obj n a o h1 h2).kp kp (nt a fun z => h.out (z ▸ List.mem_of_getElem? h1))
theorem CInv.done {ρ1 ρ : List Addr} {st : Store} {H1 H : Hp} {Dd : Addr} {acc : List D} {Q : VK} (h : CInv X ρ1 H1 Dd acc ρ st H) (hD : H1 Dd = none)
    (ha : After X.K X.mg ρ1 H1 (lft (alloc (.lst acc) st)) (fun d ρ' _ H' => ∀ v, Rep X.K X.mg ρ' H' d v → Q v H') (EW X W)) : Q (.ref Dd) H := by
  obtain ⟨xs, e, rl⟩ := h.at_
  have k : Kp ρ H (ρ ++ [Dd]) H := kp_adopt fun q => by rcases q with ⟨_, q⟩ | ⟨_, q⟩ <;> rw [e] at q <;> cases q
  refine ha (ρ ++ [Dd]) H (sim_adopt h.sim h.out ⟨xs, e, rl.kp k⟩) ⟨?_, h.ext.out, h.ext.tup, h.ext.frz, h.ext.trk⟩ _ (.ref ?_)
  · obtain ⟨more, em, hm⟩ := h.ext.pre
    refine ⟨more ++ [Dd], by rw [em, List.append_assoc], fun a ha => ?_⟩
    rcases List.mem_append.mp ha with ha | ha
    · exact hm a ha
    · rw [List.mem_singleton.mp ha]; exact hD
  · rw [← h.sim.len]; simp
def tTs (X : Cx) (W : WX) (r : Sys) (c : Cc) (es : List PySem.Expr) : TT := fun σ H Q => ∃ ρ st env, Sim X.K X.mg ρ st H ∧ EnvR X.K X.mg ρ H env σ ∧
  After X.K X.mg ρ H (testsE r c es env st) (fun k _ _ H' => Q k H') (EW X W)
theorem t_tests (hT : ∀ e, PT X e (tT X W r c e)) : ∀ es : List PySem.Expr, es.length ≤ 1 → PTs X es (tTs X W r c es)
  | [], _ => ⟨fun pins s σ H Q I ⟨ρ, st, env, hs, he, ha⟩ => pts_nil.run pins s σ H Q I ((show After _ _ _ _ (R.ok true st) _ _ from ha).okv hs)⟩
  | [t], _ => ⟨fun pins s σ H Q I h => (pts_one (hT t)).run pins s σ H Q I h⟩
  | _ :: _ :: _, h => by simp at h
abbrev W0 : WX := fun _ _ _ _ => False
theorem Good.blk (g : Good T n c X W) {scope : Scope} (s : Shared) (H : Hp) (C : Addr) (cl : List (Str × Addr)) (fp : List Addr) : Good T n (blkOf c scope) (X.blk s H scope (compEnvC scope cl C X.env) fp) W0 where
  sc := by show relS scope X.env.scope = relS scope c.sc; rw [g.sc]
  N := g.N
  nd := g.nd
  nb := g.nb
  calm := g.calm
  room := g.room
  fn := fun x h => h
  glb := g.glb
  funs := g.funs
  units := g.units
  tk := takes0
  own := PassesOwn.never
  gd := g.gd
  exs := g.exs
/-- one turn of a comprehension: Nx for the items so far -/
theorem comp_turn (g : Good T (n + 1) c X W) (S : Sound T r n) {scope : Scope} {elt tg : PySem.Expr} {ifs : List PySem.Expr} {own : List (Str × Nat)} {xs : List Str} (hx : tgNames tg = some xs) (ho : slots c.N xs = some own)
    {β : Type} {ρ1 : List Addr} {H1 : Hp} {Dd : Addr} (hD : H1 Dd = none) {acc : List D} {ρ' : List Addr} {st' : Store} {H' : Hp} (ci : CInv X ρ1 H1 Dd acc ρ' st' H') (hz : acc.length < sizeLine)
    {env : Env} {σ : L2.St} (he : EnvR X.K X.mg ρ' H' env σ) {d : D} {v : V} (rd : Rep X.K X.mg ρ' H' d v) {rest : Store → R (List D)} {f : List D → Store → R β} {Qe : β → List Addr → Store → Hp → Prop} {E : D → List (Str × D) → List Addr → Store → Hp → Prop} {Nx : Hp → Prop}
    (ha : After X.K X.mg ρ1 H1 ((match bindT (blkOf c scope) tg d (wipeE env (own.map fun (p : Str × Nat) => p.2)) with
      | none => R.bad
      | some env' => (noErr (testsE r (blkOf c scope) ifs env' st')).bind fun b st => if b then (noErr (r.E (blkOf c scope) elt env' st)).bind fun y st => (rest st).bind fun ys st => .ok (y :: ys) st
          else rest st).bind fun ys st => f (acc ++ ys) st) Qe E)
    (hn : ∀ acc' ρ'' st'' H'', CInv X ρ1 H1 Dd acc' ρ'' st'' H'' → acc'.length ≤ acc.length + 1 → Kp ρ' H' ρ'' H'' → After X.K X.mg ρ1 H1 ((rest st'').bind fun ys st => f (acc' ++ ys) st) Qe E → Nx H'') :
    tG X (blkOf c scope) tg v (wipe σ (own.map fun (p : Str × Nat) => p.2)) H' fun σ2 H2 => wipe σ2 (own.map fun (p : Str × Nat) => p.2) = wipe σ (own.map fun (p : Str × Nat) => p.2) ∧ tTs X W0 r (blkOf c scope) ifs σ2 H2 fun b H3 =>
      if b = true then tE X W0 r (blkOf c scope) elt σ2 H3 fun y H4 => ∃ acc, H4 Dd = some (.lst acc) ∧ acc.length < sizeLine ∧ Nx (upd H4 Dd (.lst (acc ++ [y]))) else Nx H3 := by
  cases hb : bindT (blkOf c scope) tg d (wipeE env (own.map fun (p : Str × Nat) => p.2)) with
  | none => rw [hb] at ha; exact ha.elim
  | some env2 =>
    rw [hb] at ha
    have ha := (show After X.K X.mg ρ1 H1 (((noErr (testsE r (blkOf c scope) ifs env2 st')).bind fun b st => if b then (noErr (r.E (blkOf c scope) elt env2 st)).bind fun y st => (rest st).bind fun ys st => .ok (y :: ys) st else rest st).bind fun ys st => f (acc ++ ys) st) Qe E from ha)
    rw [bind_assoc] at ha
    refine ⟨ρ', st', _, d, env2, ci.sim, wipe_env he _, rd, hb, fun σ2 he2 hO => ⟨wipe_only ho (hO xs hx), ?_⟩⟩
    refine ⟨ρ', st', env2, ci.sim, he2, (noErr_after ha.first0 ci.ext).mono fun b ρ2 st2 H2 hs2 hx2 hk => ?_⟩
    cases b with
    | false =>
      rw [if_neg Bool.false_ne_true]
      exact hn acc ρ2 st2 H2 (ci.step hs2 hx2) (Nat.le_succ _) hx2.kp hk
    | true =>
      rw [if_pos rfl]
      have hk := (show After X.K X.mg ρ1 H1 (((noErr (r.E (blkOf c scope) elt env2 st2)).bind fun y st => (rest st).bind fun ys st => .ok (y :: ys) st).bind fun ys st => f (acc ++ ys) st) Qe E from hk)
      rw [bind_assoc] at hk
      have ci2 := ci.step hs2 hx2
      refine ⟨ρ2, st2, env2, hs2, he2.ext hx2, (noErr_after hk.first0 ci2.ext).mono fun y ρ3 st3 H3 hs3 hx3 hk3 u ru => ?_⟩
      have ci3 := ci2.step hs3 hx3
      obtain ⟨ys, e, el, ci4⟩ := ci3.app hD ru
      refine ⟨ys, e, by rw [el]; exact hz, hn _ ρ3 st3 _ ci4 (by simp) ?_ ?_⟩
      · have k1 := (hx2.trans hx3).kp
        refine ⟨k1.ix, fun a zs q => ?_, fun a o w q => ?_, fun a ha q => ?_⟩
        · have q' := k1.tup a zs q
          rw [upd_ne fun z => by rw [z, e] at q'; cases q']
          exact q'
        · have q' := k1.frz a o w q
          rw [upd_ne fun z => by rw [z, e] at q'; cases q']
          exact q'
        · obtain ⟨h1, h2⟩ := k1.stl a ha q
          refine ⟨h1, ?_⟩
          rw [upd_ne fun z => by
            rw [z, e] at h2
            rw [z] at q
            rcases q with ⟨_, q⟩ | ⟨_, q⟩ <;> rw [q] at h2 <;> cases h2]
          exact h2
      · rw [bind_assoc] at hk3
        have : (fun (a : List D) (st : Store) => ((R.ok (y :: a) st).bind fun ys st => f (acc ++ ys) st)) = fun (ys : List D) (st : Store) => f (acc ++ [y] ++ ys) st := by
          funext a st
          show f (acc ++ y :: a) st = f (acc ++ [y] ++ a) st
          rw [List.append_assoc]
          rfl
        rw [this] at hk3
        exact hk3
theorem comp_read (g : Good T (n + 1) c X W) (S : Sound T r n) {scope : Scope} {elt tg iter : PySem.Expr} {ifs : List PySem.Expr} {own : List (Str × Nat)} {xs : List Str} (hx : tgNames tg = some xs) (ho : slots c.N xs = some own)
    (hcond : (c.calm && !isSetE iter && blkC c.N c.sc scope own && decide (ifs.length ≤ 1)) = true) {σ : L2.St} {H : Hp} {Q : VK} {ρ : List Addr} {st : Store} {env : Env} (hs : Sim X.K X.mg ρ st H) (he : EnvR X.K X.mg ρ H env σ)
    (ha : After X.K X.mg ρ H ((compE T r c elt tg iter ifs scope env st).bind fun ds st => lft (alloc (.lst ds) st)) (fun d ρ' _ H' => ∀ v, Rep X.K X.mg ρ' H' d v → Q v H') (EW X W)) :
    tLc (tI T X W r c iter) (tG X (blkOf c scope) tg) (tTs X W0 r (blkOf c scope) ifs) (tE X W0 r (blkOf c scope) elt) (own.map (·.2)) σ H Q := by
  unfold compE at ha
  simp only [hx, Option.bind_some, ho, if_pos hcond] at ha
  rw [bind_assoc] at ha
  refine ⟨ρ, st, env, hs, he, ha.first.mono fun w ρ1 st1 H1 hs1 hx1 hk J hJ Dd hD => ?_⟩
  have he1 := he.ext hx1
  cases w with
  | items l =>
    have hk' := (show After X.K X.mg ρ1 H1 ((if l.length ≤ sizeLine then compItems (bindT (blkOf c scope) tg) (testsE r (blkOf c scope) ifs) (r.E (blkOf c scope) elt) l (wipeE env (own.map (·.2))) st1 else .bad).bind fun ds st => lft (alloc (.lst ds) st)) _ _ from hk)
    by_cases hz : l.length ≤ sizeLine
    rotate_left
    · rw [if_neg hz] at hk'; exact hk'.elim
    rw [if_pos hz] at hk'
    refine ⟨fun i m H' => m = l.length - i ∧ i ≤ l.length ∧ ∃ acc ρ' st', CInv X ρ1 H1 Dd acc ρ' st' H' ∧ acc.length ≤ i ∧
      After X.K X.mg ρ1 H1 ((compItems (bindT (blkOf c scope) tg) (testsE r (blkOf c scope) ifs) (r.E (blkOf c scope) elt) (l.drop i) (wipeE env (own.map (·.2))) st').bind fun ys st => lft (alloc (.lst (acc ++ ys)) st)) (fun d ρ' _ H' => ∀ v, Rep X.K X.mg ρ' H' d v → Q v H') (EW X W),
      ⟨l.length, by simp, Nat.zero_le _, [], ρ1, st1, CInv.start hs1 hD, Nat.le_refl _, hk'⟩, ?_⟩
    rintro i m H2 ⟨rfl, hi, acc, ρ', st', ci, hacc, hk2⟩
    have hJ : Walks X J ρ1 H1 l := hJ
    by_cases hlt : i < l.length
    · refine .inr ⟨hJ.go ci.ext i hlt, fun H' => i + 1 ≤ l.length ∧ ∃ acc ρ' st', CInv X ρ1 H1 Dd acc ρ' st' H' ∧ acc.length ≤ i + 1 ∧
        After X.K X.mg ρ1 H1 ((compItems (bindT (blkOf c scope) tg) (testsE r (blkOf c scope) ifs) (r.E (blkOf c scope) elt) (l.drop (i + 1)) (wipeE env (own.map (·.2))) st').bind fun ys st => lft (alloc (.lst (acc ++ ys)) st)) (fun d ρ' _ H' => ∀ v, Rep X.K X.mg ρ' H' d v → Q v H') (EW X W),
        fun H' h => ⟨l.length - (i + 1), by omega, rfl, h⟩, fun x H3 hy => ?_⟩
      obtain ⟨rfl, rx⟩ := hJ.yld ci.ext i l[i] x H3 (List.getElem?_eq_getElem hlt) hy
      rw [List.drop_eq_getElem_cons hlt] at hk2
      unfold compItems at hk2
      exact comp_turn g S hx ho hD ci (by omega) (he1.ext ci.ext) rx (rest := fun st => compItems (bindT (blkOf c scope) tg) (testsE r (blkOf c scope) ifs) (r.E (blkOf c scope) elt) (l.drop (i + 1)) (wipeE env (own.map (·.2))) st) (f := fun ds st => lft (alloc (.lst ds) st)) hk2 fun acc' ρ'' st'' H'' ci' hl _ h => ⟨hlt, acc', ρ'', st'', ci', by omega, h⟩
    · have e : i = l.length := by omega
      subst e
      rw [List.drop_length] at hk2
      refine .inl ⟨hJ.stop ci.ext _ (Nat.le_refl _), ci.done (W := W) hD ?_⟩
      have hk3 := (show After X.K X.mg ρ1 H1 (lft (alloc (.lst (acc ++ [])) st')) _ _ from hk2)
      rw [List.append_nil] at hk3
      exact hk3
  | lst k =>
    obtain ⟨a, hka, rfl⟩ := hJ
    have hk' := (show After X.K X.mg ρ1 H1 ((compList k (bindT (blkOf c scope) tg) (testsE r (blkOf c scope) ifs) (r.E (blkOf c scope) elt) (((listAt st1 k).getD []).length + 1) 0 (wipeE env (own.map (·.2))) st1).bind fun ds st => lft (alloc (.lst ds) st)) _ _ from hk)
    refine ⟨fun i m H' => ∃ acc ρ' st', CInv X ρ1 H1 Dd acc ρ' st' H' ∧ acc.length ≤ i ∧
      After X.K X.mg ρ1 H1 ((compList k (bindT (blkOf c scope) tg) (testsE r (blkOf c scope) ifs) (r.E (blkOf c scope) elt) m i (wipeE env (own.map (·.2))) st').bind fun ys st => lft (alloc (.lst (acc ++ ys)) st)) (fun d ρ' _ H' => ∀ v, Rep X.K X.mg ρ' H' d v → Q v H') (EW X W),
      ⟨_, [], ρ1, st1, CInv.start hs1 hD, Nat.le_refl _, hk'⟩, ?_⟩
    rintro i m H2 ⟨acc, ρ', st', ci, hacc, hk2⟩
    cases m with
    | zero => exact hk2.elim
    | succ m =>
      unfold compList at hk2
      cases hl : listAt st' k with
      | none => rw [hl] at hk2; exact hk2.elim
      | some l =>
        simp only [hl] at hk2
        obtain ⟨ys, ey, rl⟩ := ci.sim.list hl (ci.ext.ix hka)
        by_cases hz : l.length ≤ sizeLine
        rotate_left
        · rw [if_neg hz] at hk2; exact hk2.elim
        rw [if_pos hz] at hk2
        cases hd : l[i]? with
        | none =>
          simp only [hd] at hk2
          refine .inl ⟨⟨ys, .of ey, ?_⟩, ci.done (W := W) hD ?_⟩
          · rw [← rl.length]
            exact List.getElem?_eq_none_iff.mp hd
          · have hk3 := (show After X.K X.mg ρ1 H1 (lft (alloc (.lst (acc ++ [])) st')) _ _ from hk2)
            rw [List.append_nil] at hk3
            exact hk3
        | some d =>
          simp only [hd] at hk2
          obtain ⟨v, hv, rv⟩ := rl.get hd
          have hi : i < l.length := (List.getElem?_eq_some_iff.mp hd).1
          refine .inr ⟨⟨ys, v, .of ey, hv⟩, fun H' => ∃ acc ρ' st', CInv X ρ1 H1 Dd acc ρ' st' H' ∧ acc.length ≤ i + 1 ∧
            After X.K X.mg ρ1 H1 ((compList k (bindT (blkOf c scope) tg) (testsE r (blkOf c scope) ifs) (r.E (blkOf c scope) elt) m (i + 1) (wipeE env (own.map (·.2))) st').bind fun ys st => lft (alloc (.lst (acc ++ ys)) st)) (fun d ρ' _ H' => ∀ v, Rep X.K X.mg ρ' H' d v → Q v H') (EW X W),
            fun H' h => ⟨m, Nat.lt_succ_self m, h⟩, fun x H3 hy => ?_⟩
          obtain ⟨rfl, hy⟩ := hy
          have e1 := hy ys (.of ey)
          rw [hv] at e1
          cases e1
          exact comp_turn g S hx ho hD ci (by omega) (he1.ext ci.ext) rv (rest := fun st => compList k (bindT (blkOf c scope) tg) (testsE r (blkOf c scope) ifs) (r.E (blkOf c scope) elt) m (i + 1) (wipeE env (own.map (·.2))) st) (f := fun ds st => lft (alloc (.lst ds) st)) hk2 fun acc' ρ'' st'' H'' ci' hl' _ h => ⟨acc', ρ'', st'', ci', by omega, h⟩
/-- [elt for tg in iter if ..] -/
theorem e_comp (g : Good T (n + 1) c X W) (S : Sound T r n) (elt tg iter : PySem.Expr) (ifs : List PySem.Expr) (scope : Scope) (pos : Pos) : PE X (.ListComp elt [⟨tg, iter, ifs, 0⟩] scope pos) (tE X W (step T r) c (.ListComp elt [⟨tg, iter, ifs, 0⟩] scope pos)) := by
  have bad : (∀ env st, compE T r c elt tg iter ifs scope env st = .bad) → PE X (.ListComp elt [⟨tg, iter, ifs, 0⟩] scope pos) (tE X W (step T r) c (.ListComp elt [⟨tg, iter, ifs, 0⟩] scope pos)) := fun h => PE.no fun σ H Q ⟨ρ, st, env, hs, he, ha⟩ => by
    have ha' : After X.K X.mg ρ H ((compE T r c elt tg iter ifs scope env st).bind fun ds st => lft (alloc (.lst ds) st)) _ _ := ha
    rw [h] at ha'
    exact ha'
  cases hx : tgNames tg with
  | none => exact bad fun env st => by unfold compE; simp only [hx, Option.bind_none]
  | some xs =>
    cases ho : slots c.N xs with
    | none => exact bad fun env st => by unfold compE; simp only [hx, Option.bind_some, ho]
    | some own =>
      by_cases hc : (c.calm && !isSetE iter && blkC c.N c.sc scope own && decide (ifs.length ≤ 1)) = true
      rotate_left
      · exact bad fun env st => by unfold compE; simp only [hx, Option.bind_some, ho, if_neg hc]
      obtain ⟨hc1, hi⟩ := Bool.and_eq_true_iff.mp hc
      obtain ⟨hc2, hb⟩ := Bool.and_eq_true_iff.mp hc1
      obtain ⟨hcm, hst⟩ := Bool.and_eq_true_iff.mp hc2
      refine PE.mono (pe_lc (own := own) (tg := tg) (scope := scope) (wi := tI T X W r c iter) (g := tG X (blkOf c scope) tg) (tt := tTs X W0 r (blkOf c scope) ifs) (te := tE X W0 r (blkOf c scope) elt) (g.calm hcm) (by rw [g.N]; exact g.nd) (i_walk g S tg iter) (by rw [g.N, g.sc]; exact blkOk_by hb)
        (fun s H C cl fp => g_target (g.blk (scope := scope) s H C cl fp) tg)
        (fun s H C cl fp => t_tests (S.te _ _ _ (g.down.blk (scope := scope) s H C cl fp)) ifs (of_decide_eq_true hi))
        (fun s H C cl fp => S.ex _ _ _ (g.down.blk (scope := scope) s H C cl fp) elt) (by
          intro x
          cases iter <;> first | rfl | (simp [isSetE] at hst))) fun σ H Q ⟨ρ, st, env, hs, he, ha⟩ => ?_
      exact comp_read g S hx ho hc hs he ha
end
end Nd
end

section
set_option Elab.async false
set_option linter.all false
set_option maxRecDepth 100000
/-! NdU: displays of dicts, attributes, slices. -/
namespace Nd
open PySem PySem.Spec PyProof.Rows L2
section
variable {T : Tab} {n : Nat} {r : Sys} {c : Cc} {X : Cx} {W : WX}

/-! ### dicts -/
/-- a dict's pairs -/
def KvR (K : PySem.W.Frag) (mg : Str → Option Value) (ρ : List Addr) (H : Hp) (l : List (L2.Key × D)) (kvs : List (L2.Key × V)) : Prop := kvs.map (·.1) = l.map (·.1) ∧ RepL K mg ρ H (l.map (·.2)) (kvs.map (·.2))
section
variable {K : PySem.W.Frag} {mg : Str → Option Value} {ρ ρ' : List Addr} {H H' : Hp}
theorem KvR.nil : KvR K mg ρ H [] [] := ⟨rfl, .nil⟩
theorem KvR.kp (e : Kp ρ H ρ' H') {l : List (L2.Key × D)} {kvs : List (L2.Key × V)} (h : KvR K mg ρ H l kvs) : KvR K mg ρ' H' l kvs := ⟨h.1, h.2.kp e⟩
theorem KvR.cons {k : L2.Key} {d : D} {v : V} {l : List (L2.Key × D)} {kvs : List (L2.Key × V)} (r : Rep K mg ρ H d v) (h : KvR K mg ρ H l kvs) : KvR K mg ρ H ((k, d) :: l) ((k, v) :: kvs) := ⟨by simp [h.1], .cons r h.2⟩
theorem KvR.inv {kd : L2.Key × D} {l : List (L2.Key × D)} {kvs : List (L2.Key × V)} (h : KvR K mg ρ H (kd :: l) kvs) : ∃ v r, kvs = (kd.1, v) :: r ∧ Rep K mg ρ H kd.2 v ∧ KvR K mg ρ H l r := by
  obtain ⟨h1, h2⟩ := h
  cases kvs with
  | nil => cases h1
  | cons p r =>
    obtain ⟨k, v⟩ := p
    have e : k = kd.1 ∧ r.map (·.1) = l.map (·.1) := by simpa using h1
    cases h2 with
    | cons a b =>
      obtain ⟨e1, e2⟩ := e
      subst e1
      exact ⟨v, r, rfl, a, e2, b⟩
theorem KvR.any (k : L2.Key) : ∀ {l : List (L2.Key × D)} {kvs : List (L2.Key × V)}, KvR K mg ρ H l kvs → (kvs.any fun kv => decide (kv.1 = k)) = l.any fun kv => decide (kv.1 = k)
  | [], kvs, h => by
    cases kvs with
    | nil => rfl
    | cons _ _ => cases h.1
  | p :: l, kvs, h => by
    obtain ⟨v, r, rfl, _, hr⟩ := h.inv
    rw [List.any_cons, List.any_cons, KvR.any k hr]
theorem KvR.mapv (k : L2.Key) {d : D} {v : V} (rv : Rep K mg ρ H d v) : ∀ {l : List (L2.Key × D)} {kvs : List (L2.Key × V)}, KvR K mg ρ H l kvs →
    KvR K mg ρ H (l.map fun kv => if kv.1 = k then (kv.1, d) else kv) (kvs.map fun kv => if kv.1 = k then (kv.1, v) else kv)
  | [], kvs, h => by
    cases kvs with
    | nil => exact .nil
    | cons _ _ => cases h.1
  | (k', d') :: l, kvs, h => by
    obtain ⟨v', r, rfl, r1, hr⟩ := h.inv
    rw [List.map_cons, List.map_cons]
    by_cases e : k' = k
    · rw [if_pos e, if_pos e]
      exact .cons rv (KvR.mapv k rv hr)
    · rw [if_neg e, if_neg e]
      exact .cons r1 (KvR.mapv k rv hr)
theorem KvR.append {l m : List (L2.Key × D)} {kvs kws : List (L2.Key × V)} (h : KvR K mg ρ H l kvs) (g : KvR K mg ρ H m kws) : KvR K mg ρ H (l ++ m) (kvs ++ kws) := ⟨by simp [h.1, g.1], by rw [List.map_append, List.map_append]; exact h.2.append g.2⟩
theorem KvR.put (k : L2.Key) {d : D} {v : V} (rv : Rep K mg ρ H d v) {l : List (L2.Key × D)} {kvs : List (L2.Key × V)} (h : KvR K mg ρ H l kvs) : KvR K mg ρ H (putD l k d) (putK kvs k v) := by
  unfold putD putK
  rw [h.any k]
  by_cases e : (l.any fun kv => decide (kv.1 = k)) = true
  · rw [if_pos e, if_pos e]
    exact h.mapv k rv
  · rw [if_neg e, if_neg e]
    exact h.append (.cons rv .nil)
theorem KvR.merge : ∀ {more : List (L2.Key × D)} {kms : List (L2.Key × V)} {l : List (L2.Key × D)} {kvs : List (L2.Key × V)}, KvR K mg ρ H more kms → KvR K mg ρ H l kvs → KvR K mg ρ H (more.foldl (fun acc kv => putD acc kv.1 kv.2) l) (mergeK kvs kms)
  | [], kms, l, kvs, h, g => by
    cases kms with
    | nil => exact g
    | cons _ _ => cases h.1
  | (k, d) :: more, kms, l, kvs, h, g => by
    obtain ⟨v, r, rfl, r1, hr⟩ := h.inv
    show KvR K mg ρ H (more.foldl (fun acc kv => putD acc kv.1 kv.2) (putD l k d)) (mergeK (putK kvs k v) r)
    exact KvR.merge hr (g.put k r1)
theorem keyD_rep {d : D} {k : L2.Key} {v : V} (h : keyD d = some k) (r : Rep K mg ρ H d v) : v = kV k := by
  cases r <;> first | (cases h; rfl) | cases h
end
def trsOf (X : Cx) (W : WX) (r : Sys) (c : Cc) : List (Option PySem.Expr) → List PySem.Expr → List (TE × TE)
  | some k :: ks, v :: vs => (tE X W r c k, tE X W r c v) :: trsOf X W r c ks vs
  | _, _ => []
theorem pps_ok (hE : ∀ e, PE X e (tE X W r c e)) {pos : Pos} : ∀ (ks : List (Option PySem.Expr)) (vs : List PySem.Expr), ks.all (·.isSome) = true → ks.length = vs.length → PPs X pos ks vs (trsOf X W r c ks vs)
  | [], [], _, _ => pps_nil
  | [], _ :: _, _, h => by simp at h
  | none :: _, _, h, _ => by simp at h
  | some k :: ks, [], _, h => by simp at h
  | some k :: ks, v :: vs, h, h2 => pps_cons (hE k) (hE v) (pps_ok hE ks vs (by simpa using h) (by simpa using h2))
theorem pairs_read : ∀ (ks : List (Option PySem.Expr)) (vs : List PySem.Expr) {σ : L2.St} {H : Hp} {ρ : List Addr} {st : Store} {env : Env} {P : List (V × V) → Hp → Prop}, Sim X.K X.mg ρ st H → EnvR X.K X.mg ρ H env σ →
    After X.K X.mg ρ H (pairsE r c ks vs env st) (fun l ρ' st' H' => ∀ kvs, KvR X.K X.mg ρ' H' l kvs → kvs.length = ks.length → P (kvs.map fun kv => (kV kv.1, kv.2)) H') (EW X W) → tPairs (trsOf X W r c ks vs) σ H P
  | [], [], σ, H, ρ, st, env, P, hs, he, ha => ((show After X.K X.mg ρ H (R.ok [] st) _ _ from ha).okv hs) [] .nil rfl
  | [], _ :: _, _, _, _, _, _, _, _, _, ha => ha.elim
  | none :: _, _, _, _, _, _, _, _, _, _, ha => ha.elim
  | some _ :: _, [], _, _, _, _, _, _, _, _, ha => ha.elim
  | some k :: ks, v :: vs, σ, H, ρ, st, env, P, hs, he, ha => by
    have ha' : After X.K X.mg ρ H ((r.E c k env st).bind fun x st => (r.E c v env st).bind fun y st => match keyD x with
      | some q => (pairsE r c ks vs env st).bind fun l st => .ok ((q, y) :: l) st
      | none => .bad) _ _ := ha
    refine ⟨ρ, st, env, hs, he, ha'.first.mono fun x ρ1 st1 H1 hs1 hx1 hk1 vx rx => ?_⟩
    refine ⟨ρ1, st1, env, hs1, he.ext hx1, hk1.first.mono fun y ρ2 st2 H2 hs2 hx2 hk2 vy ry => ?_⟩
    cases hq : keyD x with
    | none => rw [hq] at hk2; exact hk2.elim
    | some q =>
      rw [hq] at hk2
      have ek := keyD_rep hq rx
      subst ek
      refine pairs_read ks vs hs2 ((he.ext hx1).ext hx2) (hk2.first.mono fun l ρ3 st3 H3 hs3 hx3 hk3 kvs rk hl => ?_)
      exact (show After _ _ _ _ (R.ok ((q, y) :: l) st3) _ _ from hk3).okv hs3 ((q, vy) :: kvs) (.cons (ry.ext hx3) rk) (by simp [hl])
theorem e_dict0 (g : Good T (n + 1) c X W) (pos : Pos) : PE X (.Dict [] [] pos) (tE X W (step T r) c (.Dict [] [] pos)) := by
  refine PE.mono pe_dnewK fun σ H Q ⟨ρ, st, env, hs, he, ha⟩ p hp => ?_
  have ha' : After X.K X.mg ρ H (lft (alloc (.dct []) st)) _ _ := ha
  refine ha' (ρ ++ [p]) _ (sim_alloc hs hp ⟨[], upd_same, rfl, .nil⟩) (ext_alloc hp) _ (.ref ?_)
  rw [← hs.len]
  simp
theorem e_dict (g : Good T (n + 1) c X W) (hE : ∀ e, PE X e (tE X W r c e)) (k : Option PySem.Expr) (ks : List (Option PySem.Expr)) (vs : List PySem.Expr) (pos : Pos) : PE X (.Dict (k :: ks) vs pos) (tE X W (step T r) c (.Dict (k :: ks) vs pos)) := by
  by_cases hc : (decide (ks.length ≤ 14) && (k :: ks).all (·.isSome) && decide ((k :: ks).length = vs.length)) = true
  rotate_left
  · refine PE.no fun σ H Q ⟨ρ, st, env, hs, he, ha⟩ => ?_
    have ha' : After X.K X.mg ρ H (if (decide (ks.length ≤ 14) && (k :: ks).all (·.isSome) && decide ((k :: ks).length = vs.length)) = true then (pairsE r c (k :: ks) vs env st).bind fun l st => lft (alloc (.dct (l.foldl (fun acc kv => putD acc kv.1 kv.2) [])) st) else .bad) _ _ := ha
    rw [if_neg hc] at ha'
    exact ha'
  obtain ⟨hc1, h3⟩ := Bool.and_eq_true_iff.mp hc
  obtain ⟨h1, h2⟩ := Bool.and_eq_true_iff.mp hc1
  have h1 := of_decide_eq_true h1
  have h3 := of_decide_eq_true h3
  refine PE.mono (pe_disp (pps_ok (pos := pos) hE (k :: ks) vs h2 h3) h2 h3 (by simp) (by simp; omega)) fun σ H Q ⟨ρ, st, env, hs, he, ha⟩ p hp => ?_
  have ha' : After X.K X.mg ρ H (if (decide (ks.length ≤ 14) && (k :: ks).all (·.isSome) && decide ((k :: ks).length = vs.length)) = true then (pairsE r c (k :: ks) vs env st).bind fun l st => lft (alloc (.dct (l.foldl (fun acc kv => putD acc kv.1 kv.2) [])) st) else .bad) _ _ := ha
  rw [if_pos hc] at ha'
  have np : p ∉ ρ := fun z => (hs.mem z).1 hp
  refine pairs_read (k :: ks) vs (sim_new hs hp) (he.ext (ext_new hp)) ((ha'.first0.base (ext_new hp)).mono fun l ρ2 st2 H2 hs2 hx2 hk kvs rk hl => ?_)
  have e2 : H2 p = some (.dK []) := hx2.out p _ upd_same np
  have np2 : p ∉ ρ2 := by
    obtain ⟨m, em, hm⟩ := hx2.pre
    rw [em]
    intro z
    rcases List.mem_append.mp z with z | z
    · exact np z
    · have := hm p z
      rw [upd_same] at this
      cases this
  refine ⟨e2, kvs, rfl, by rw [hl]; simp; omega, ?_⟩
  have nt : ∀ a, a ≠ p → upd H2 p (.dK (mergeK [] kvs)) a = H2 a := fun a z => upd_ne z
  have kp : Kp ρ2 H2 (ρ2 ++ [p]) (upd H2 p (.dK (mergeK [] kvs))) := ⟨fun {n a} e => by rw [List.getElem?_append_left (List.getElem?_eq_some_iff.mp e).1]; exact e,
    fun a xs q => by rw [nt a fun z => by rw [z, e2] at q; cases q]; exact q, fun a o u q => by rw [nt a fun z => by rw [z, e2] at q; cases q]; exact q, fun a ha' q => by
      have ne : a ≠ p := fun z => by
        rw [z] at q
        rcases q with ⟨_, q⟩ | ⟨_, q⟩ <;> rw [e2] at q <;> cases q
      exact ⟨fun z => by
        rcases List.mem_append.mp z with z | z
        · exact ha' z
        · exact ne (List.mem_singleton.mp z), nt a ne⟩⟩
  have km := (rk.merge (KvR.nil (K := X.K) (mg := X.mg) (ρ := ρ2) (H := H2))).kp kp
  have sm : Sim X.K X.mg (ρ2 ++ [p]) (st2 ++ [.dct (l.foldl (fun acc kv => putD acc kv.1 kv.2) [])]) (upd H2 p (.dK (mergeK [] kvs))) := by
    have s0 : Sim X.K X.mg ρ2 st2 (upd H2 p (.dK (mergeK [] kvs))) := by
      refine ⟨hs2.len, hs2.nd, fun n a o h1 h2 => ?_⟩
      have ne : a ≠ p := fun z => np2 (z ▸ List.mem_of_getElem? h1)
      have kp0 : Kp ρ2 H2 ρ2 (upd H2 p (.dK (mergeK [] kvs))) := ⟨fun e => e, kp.tup, kp.frz, fun a ha q => ⟨ha, (kp.stl a ha q).2⟩⟩
      exact (hs2.obj n a o h1 h2).kp kp0 (nt a ne)
    exact sim_adopt s0 np2 ⟨_, upd_same, km.1, km.2⟩
  refine (show After _ _ _ _ (lft (alloc (.dct (l.foldl (fun acc kv => putD acc kv.1 kv.2) [])) st2)) _ _ from hk) (ρ2 ++ [p]) _ sm ?_ _ (.ref ?_)
  · obtain ⟨m, em, hm⟩ := hx2.pre
    have up : ∀ a o, H a = some o → upd H p (.dK []) a = some o := fun a o q => by rw [upd_ne (ne_of_none q hp)]; exact q
    have npe : ∀ a o, H a = some o → a ≠ p := fun a o q => ne_of_none q hp
    refine ⟨⟨m ++ [p], by rw [em, List.append_assoc], fun a ha => ?_⟩, fun a o q hn => ?_, fun a xs q => ?_, fun a o u q => ?_, fun a q => ?_⟩
    · rcases List.mem_append.mp ha with ha | ha
      · have z := hm a ha
        by_cases e : a = p
        · rw [e]; exact hp
        · rw [upd_ne e] at z; exact z
      · rw [List.mem_singleton.mp ha]; exact hp
    · rw [nt a (npe a o q)]; exact hx2.out a o (up a o q) hn
    · rw [nt a (npe a _ q)]; exact hx2.tup a xs (up a _ q)
    · rw [nt a (npe a _ q)]; exact hx2.frz a o u (up a _ q)
    · by_cases e : a = p
      · rw [e, upd_same]; simp
      · rw [nt a e]
        refine hx2.trk a ?_
        rw [upd_ne e]; exact q
  · rw [← hs2.len]
    simp
/-! ### attributes -/
theorem base_plain {a : PySem.Expr} {f : Str} {env : PySem.Env} (h : ∀ g es ks q, a ≠ .Call g es ks q) : attributeBase a f env (eval a env) = eval a env := by
  cases a <;> first | rfl | exact absurd rfl (h _ _ _ _)
theorem e_attr (g : Good T (n + 1) c X W) (hE : ∀ e, PE X e (tE X W r c e)) (a : PySem.Expr) (f : Str) (pos : Pos) : PE X (.Attribute a f pos) (tE X W (step T r) c (.Attribute a f pos)) := by
  by_cases hc : ∃ g es ks q, a = .Call g es ks q
  · obtain ⟨_, _, _, _, rfl⟩ := hc
    exact PE.no fun σ H Q ⟨ρ, st, env, hs, he, ha⟩ => ha
  have hc' : ∀ g es ks q, a ≠ .Call g es ks q := fun g es ks q e => hc ⟨g, es, ks, q, e⟩
  refine PE.mono (pe_xfv (hE a) (base_plain hc')) fun σ H Q ⟨ρ, st, env, hs, he, ha⟩ => ?_
  have ha' : After X.K X.mg ρ H ((r.E c a env st).bind fun x st => ret (attrD T x f) st) (fun d ρ' _ H' => ∀ v, Rep X.K X.mg ρ' H' d v → Q v H') (EW X W) := by
    cases a <;> first | exact ha | exact absurd rfl (hc' _ _ _ _)
  refine ⟨ρ, st, env, hs, he, ha'.first.mono fun d ρ1 st1 H1 hs1 hx1 hk v rv => ?_⟩
  obtain ⟨d', e1, q⟩ := ret_here hs1 hk
  cases rv with
  | @exc1 x f' C a dx d0 v0 hm hn h1 hn2 h2 r0 =>
    have e2 : (match T.excs.lookup x with | some e => if e.fld = some f then [(f', d0)].lookup f else none | none => none) = some d' := e1
    split at e2
    · rename_i ex hx
      split at e2
      · rename_i hf
        obtain ⟨_, C', hm', _, _, xf, _, hv, _⟩ := g.exs.at_ x ex hx
        rw [hm] at hm'
        cases hm'
        have ef : f = f' ∧ d0 = d' := by
          by_cases z : f = f'
          · subst z
            simp [List.lookup] at e2
            exact ⟨rfl, e2⟩
          · have : (f == f') = false := by simpa using z
            simp [List.lookup, this] at e2
        obtain ⟨rfl, rfl⟩ := ef
        exact ⟨C, _, dx, _, v0, (hv f hf).2, xf, rfl, h1, h2, by simp [List.lookup], q v0 r0⟩
      · cases e2
    · cases e2
  | exc0 hm hn h1 =>
    have e2 : (match T.excs.lookup _ with | some e => if e.fld = some f then ([] : List (Str × D)).lookup f else none | none => none) = some d' := e1
    split at e2
    · split at e2
      · cases e2
      · cases e2
    · cases e2
  | _ => cases e1
/-! ### slices -/
def tO (X : Cx) (W : WX) (r : Sys) (c : Cc) (o : Option PySem.Expr) : TO := fun σ H Q => ∃ ρ st env, Sim X.K X.mg ρ st H ∧ EnvR X.K X.mg ρ H env σ ∧ After X.K X.mg ρ H (partE r c o env st) (fun i _ _ H' => Q i H') (EW X W)
theorem o_part (hE : ∀ e, PE X e (tE X W r c e)) (o : Option PySem.Expr) : PO X o (tO X W r c o) := by
  cases o with
  | none => exact ⟨fun pins s σ H Q I ⟨ρ, st, env, hs, he, ha⟩ => po_none.run pins s σ H Q I ((show After _ _ _ _ (R.ok none st) _ _ from ha).okv hs)⟩
  | some e =>
    refine ⟨fun pins s σ H Q I ⟨ρ, st, env, hs, he, ha⟩ => (po_some (hE e)).run pins s σ H Q I ?_⟩
    have ha' : After X.K X.mg ρ H ((r.E c e env st).bind fun d st => match d with | .int i => .ok (some i) st | _ => .bad) _ _ := ha
    refine ⟨ρ, st, env, hs, he, ha'.first.mono fun d ρ1 st1 H1 hs1 hx1 hk v rv => ?_⟩
    cases rv with
    | int i => exact ⟨i, rfl, (show After _ _ _ _ (R.ok (some i) st1) _ _ from hk).okv hs1⟩
    | _ => exact hk.elim
theorem e_slice (hE : ∀ e, PE X e (tE X W r c e)) (a : PySem.Expr) (lo hi : Option PySem.Expr) (p2 pos : Pos) : PE X (.Subscript a (.Slice lo hi none p2) pos) (tE X W (step T r) c (.Subscript a (.Slice lo hi none p2) pos)) := by
  refine PE.mono (pe_slice sl_ok (hE a) (o_part hE lo) (o_part hE hi)) fun σ H Q ⟨ρ, st, env, hs, he, ha⟩ => ?_
  have ha' : After X.K X.mg ρ H ((r.E c a env st).bind fun x st => (partE r c lo env st).bind fun lo st => (partE r c hi env st).bind fun hi st => lft (sliceD x lo hi st)) (fun d ρ' _ H' => ∀ v, Rep X.K X.mg ρ' H' d v → Q v H') (EW X W) := ha
  refine ⟨ρ, st, env, hs, he, ha'.first.mono fun x ρ1 st1 H1 hs1 hx1 hk1 v rv => ?_⟩
  refine ⟨ρ1, st1, env, hs1, he.ext hx1, hk1.first.mono fun l ρ2 st2 H2 hs2 hx2 hk2 => ?_⟩
  refine ⟨ρ2, st2, env, hs2, (he.ext hx1).ext hx2, hk2.first.mono fun h ρ3 st3 H3 hs3 hx3 hk3 => ?_⟩
  exact ⟨ρ3, st3, x, hs3, (rv.ext hx2).ext hx3, lft_res hk3⟩
end
end Nd
end

section
set_option Elab.async false
set_option linter.all false
set_option maxRecDepth 100000
/-! NdE: expressions, tests, statements, defs. -/
namespace Nd
open PySem PySem.Spec PyProof.Rows L2
section
variable {T : Tab} {n : Nat} {r : Sys} {c : Cc} {X : Cx} {W : WX}
/-- nothing is told of it -/
theorem e_bad {e : PySem.Expr} (h : ∀ env st, stepE T r c e env st = .bad) : PE X e (tE X W (step T r) c e) := PE.no fun σ H Q ⟨ρ, st, env, hs, he, ha⟩ => by
  have ha' : After X.K X.mg ρ H (stepE T r c e env st) _ _ := ha
  rw [h] at ha'
  exact ha'
theorem e_const {e : PySem.Expr} {d : D} {v : V} (h : ∀ env st, stepE T r c e env st = .ok d st) (rep : ∀ {K mg ρ H}, Rep K mg ρ H d v) (hp : PE X e (tC v)) : PE X e (tE X W (step T r) c e) := PE.mono hp fun σ H Q ⟨ρ, st, env, hs, he, ha⟩ => by
  have ha' : After X.K X.mg ρ H (stepE T r c e env st) _ _ := ha
  rw [h] at ha'
  exact ha'.okv hs v rep
theorem plainIx (b : PySem.Expr) (h : ∀ lo hi s p, b ≠ .Slice lo hi s p) : PlainIx b := by
  cases b <;> first | (intro o i; rfl) | exact absurd rfl (h _ _ _ _)
theorem e_step (g : Good T (n + 1) c X W) (S : Sound T r n) (e : PySem.Expr) : PE X e (tE X W (step T r) c e) := by
  have hE := S.ex c X W g.down
  have hT := S.te c X W g.down
  cases e with
  | Name x p => exact e_name g x p
  | Constant k j p =>
    cases k with
    | none => exact e_const (fun _ _ => rfl) .non pe_non
    | bool b => exact e_const (fun _ _ => rfl) (.bl b) pe_bl
    | int i => exact e_const (fun _ _ => rfl) (.int i) pe_int
    | str s => exact e_const (fun _ _ => rfl) (.str s) pe_str
    | _ => exact e_bad fun _ _ => rfl
  | BinOp a op b p =>
    refine PE.mono (pe_op (op_bin op) (hE a) (hE b)) fun σ H Q ⟨ρ, st, env, hs, he, ha⟩ => ?_
    exact seq2 env hs he ha fun ρ2 st2 H2 x y v u hs2 hx2 rx ry h => ⟨ρ2, st2, x, y, hs2, rx, ry, lft_res h⟩
  | UnaryOp op a p =>
    cases op with
    | Not =>
      refine PE.mono (pe_notT (hE a)) fun σ H Q ⟨ρ, st, env, hs, he, ha⟩ => ?_
      have ha' : After X.K X.mg ρ H ((r.E c a env st).bind fun x st => ret ((truth st x).map fun b => .bl (!b)) st) _ _ := ha
      refine ⟨ρ, st, env, hs, he, ha'.first.mono fun d ρ1 st1 H1 hs1 hx1 hk v rv => ?_⟩
      obtain ⟨d', e1, q⟩ := ret_here hs1 hk
      obtain ⟨k, hk1, e2⟩ := Option.map_eq_some_iff.mp e1
      subst e2
      exact ⟨k, truth_ok hs1 hk1 rv, q _ (.bl _)⟩
    | USub =>
      refine PE.mono (pe_un un_neg (hE a)) fun σ H Q ⟨ρ, st, env, hs, he, ha⟩ => ?_
      have ha' : After X.K X.mg ρ H ((r.E c a env st).bind fun x st => ret (negD x) st) _ _ := ha
      refine ⟨ρ, st, env, hs, he, ha'.first.mono fun d ρ1 st1 H1 hs1 hx1 hk v rv => ?_⟩
      obtain ⟨d', e1, q⟩ := ret_here hs1 hk
      cases rv with
      | int i =>
        cases e1
        exact ⟨i, rfl, q _ (.int _)⟩
      | _ => cases e1
    | _ => exact e_bad fun _ _ => rfl
  | BoolOp op vs p =>
    cases vs with
    | nil => cases op <;> exact e_bad fun _ _ => rfl
    | cons a es =>
      cases es with
      | nil =>
        refine PE.mono (pe_one (hE a)) fun σ H Q ⟨ρ, st, env, hs, he, ha⟩ => ⟨ρ, st, env, hs, he, ?_⟩
        cases op <;> exact ha
      | cons b es =>
        cases op with
        | And =>
          refine PE.mono (pe_andT (hE a) (hE (.BoolOp .And (b :: es) p))) fun σ H Q ⟨ρ, st, env, hs, he, ha⟩ => ?_
          have ha' : After X.K X.mg ρ H ((r.E c a env st).bind fun x st => match truth st x with | some true => r.E c (.BoolOp .And (b :: es) p) env st | some false => .ok x st | none => .bad) _ _ := ha
          refine ⟨ρ, st, env, hs, he, ha'.first.mono fun d ρ1 st1 H1 hs1 hx1 hk v rv => ?_⟩
          cases hk1 : truth st1 d with
          | none => rw [hk1] at hk; exact hk.elim
          | some k =>
            refine ⟨k, truth_ok hs1 hk1 rv, ?_⟩
            rw [hk1] at hk
            cases k with
            | true =>
              rw [if_pos rfl]
              exact ⟨ρ1, st1, env, hs1, he.ext hx1, hk⟩
            | false =>
              rw [if_neg Bool.false_ne_true]
              exact hk.okv hs1 v rv
        | Or =>
          refine PE.mono (pe_orT (hE a) (hE (.BoolOp .Or (b :: es) p))) fun σ H Q ⟨ρ, st, env, hs, he, ha⟩ => ?_
          have ha' : After X.K X.mg ρ H ((r.E c a env st).bind fun x st => match truth st x with | some false => r.E c (.BoolOp .Or (b :: es) p) env st | some true => .ok x st | none => .bad) _ _ := ha
          refine ⟨ρ, st, env, hs, he, ha'.first.mono fun d ρ1 st1 H1 hs1 hx1 hk v rv => ?_⟩
          cases hk1 : truth st1 d with
          | none => rw [hk1] at hk; exact hk.elim
          | some k =>
            refine ⟨k, truth_ok hs1 hk1 rv, ?_⟩
            rw [hk1] at hk
            cases k with
            | false =>
              rw [if_neg Bool.false_ne_true]
              exact ⟨ρ1, st1, env, hs1, he.ext hx1, hk⟩
            | true =>
              rw [if_pos rfl]
              exact hk.okv hs1 v rv
  | IfExp t a b p =>
    refine PE.mono (pe_ifExp (hT t) (hE a) (hE b)) fun σ H Q ⟨ρ, st, env, hs, he, ha⟩ => ?_
    have ha' : After X.K X.mg ρ H ((r.T c t env st).bind fun k st => if k then r.E c a env st else r.E c b env st) _ _ := ha
    refine ⟨ρ, st, env, hs, he, ha'.first.mono fun k ρ1 st1 H1 hs1 hx1 hk => ?_⟩
    cases k with
    | true => rw [if_pos rfl] at hk ⊢; exact ⟨ρ1, st1, env, hs1, he.ext hx1, hk⟩
    | false => rw [if_neg Bool.false_ne_true] at hk ⊢; exact ⟨ρ1, st1, env, hs1, he.ext hx1, hk⟩
  | Compare a ops bs p =>
    match ops, bs with
    | [op], [b] =>
      by_cases hm : behindInMarks op b = true
      · refine e_bad fun env st => ?_
        show (if behindInMarks op b = true then R.bad else _) = R.bad
        rw [if_pos hm]
      · refine PE.mono (pe_cmpR (op_cmp g.units op) (hE a) (hE b) (by simpa using hm)) fun σ H Q ⟨ρ, st, env, hs, he, ha⟩ => ?_
        have ha' : After X.K X.mg ρ H (if behindInMarks op b = true then R.bad else (r.E c a env st).bind fun x st => (r.E c b env st).bind fun y st => ret ((cmpop op x y st).map .bl) st) _ _ := ha
        rw [if_neg hm] at ha'
        refine seq2 env hs he ha' fun ρ2 st2 H2 x y v u hs2 hx2 rx ry h => ?_
        obtain ⟨d', e1, q⟩ := ret_here hs2 h
        obtain ⟨k, hk1, e2⟩ := Option.map_eq_some_iff.mp e1
        subst e2
        exact ⟨ρ2, st2, x, y, k, hs2, rx, ry, hk1, q _ (.bl _)⟩
    | [], _ => exact e_bad fun _ _ => rfl
    | _ :: _ :: _, _ => exact e_bad fun _ _ => rfl
    | [_], [] => exact e_bad fun _ _ => rfl
    | [_], _ :: _ :: _ => exact e_bad fun _ _ => rfl
  | Call f args kws p =>
    cases kws with
    | nil => exact e_call g S f args p
    | cons _ _ => exact e_bad fun _ _ => rfl
  | List es p =>
    refine PE.mono (pe_lst (a_args hE es)) fun σ H Q ⟨ρ, st, env, hs, he, ha⟩ => ?_
    have ha' : After X.K X.mg ρ H ((argsE r c es env st).bind fun ds st => if ds.length ≤ sizeLine then lft (alloc (.lst ds) st) else .bad) _ _ := ha
    refine ⟨ρ, st, env, hs, he, ha'.first.mono fun ds ρ1 st1 H1 hs1 hx1 hk vs rvs => ?_⟩
    by_cases hz : ds.length ≤ sizeLine
    · rw [if_pos hz] at hk
      exact ⟨by rw [← rvs.length]; exact hz, fun q hq => (lft_res hk).new hs1 rvs hq⟩
    · rw [if_neg hz] at hk
      exact hk.elim
  | Tuple es j p =>
    refine PE.mono (pe_tup (a_args hE es)) fun σ H Q ⟨ρ, st, env, hs, he, ha⟩ => ?_
    have ha' : After X.K X.mg ρ H ((argsE r c es env st).bind fun ds st => if ds.length ≤ sizeLine then .ok (D.tup ds) st else .bad) _ _ := ha
    refine ⟨ρ, st, env, hs, he, ha'.first.mono fun ds ρ1 st1 H1 hs1 hx1 hk vs rvs => ?_⟩
    by_cases hz : ds.length ≤ sizeLine
    · rw [if_pos hz] at hk
      refine ⟨by rw [← rvs.length]; exact hz, fun q hq => ?_⟩
      exact hk ρ1 _ (sim_new hs1 hq) (ext_new hq) _ (.tup (.of upd_same) (rvs.ext (ext_new hq)))
    · rw [if_neg hz] at hk
      exact hk.elim
  | Subscript a b p =>
    by_cases hb : ∃ lo hi s q, b = .Slice lo hi s q
    · obtain ⟨lo, hi, s, q, rfl⟩ := hb
      cases s with
      | none => exact e_slice hE a lo hi q p
      | some _ => exact e_bad fun _ _ => rfl
    · refine PE.mono (pe_ix ix_ok (hE a) (hE b) (plainIx b fun lo hi s q e => hb ⟨lo, hi, s, q, e⟩)) fun σ H Q ⟨ρ, st, env, hs, he, ha⟩ => ?_
      have ha' : After X.K X.mg ρ H ((r.E c a env st).bind fun x st => (r.E c b env st).bind fun y st => ret (atD x y st) st) (fun d ρ' _ H' => ∀ v, Rep X.K X.mg ρ' H' d v → Q v H') (EW X W) := by
        cases b <;> first | exact ha | exact absurd ⟨_, _, _, _, rfl⟩ hb
      refine seq2 env hs he ha' fun ρ2 st2 H2 x y v u hs2 hx2 rx ry h => ?_
      obtain ⟨d', e1, q⟩ := ret_here hs2 h
      exact ⟨ρ2, st2, x, y, d', hs2, rx, ry, e1, q⟩
  | Attribute a f p => exact e_attr g hE a f p
  | Dict ks vs p =>
    cases ks with
    | nil =>
      cases vs with
      | nil => exact e_dict0 g p
      | cons _ _ => exact e_bad fun _ _ => rfl
    | cons k ks => exact e_dict g hE k ks vs p
  | ListComp elt gs scope p =>
    match gs with
    | [⟨tg, iter, ifs, a⟩] =>
      by_cases ha : a = 0
      · subst ha
        exact e_comp g S elt tg iter ifs scope p
      · refine e_bad fun env st => ?_
        unfold stepE
        split <;> first | rfl | (exfalso; simp_all)
    | [] => exact e_bad fun _ _ => rfl
    | _ :: _ :: _ => exact e_bad fun _ _ => by unfold stepE; split <;> first | rfl | (exfalso; simp_all)
  | _ => exact e_bad fun _ _ => rfl
/-! ### tests -/
theorem t_bad {e : PySem.Expr} (h : ∀ env st, stepT r c e env st = .bad) : PT X e (tT X W (step T r) c e) := PT.no fun σ H Q ⟨ρ, st, env, hs, he, ha⟩ => by
  have ha' : After X.K X.mg ρ H (stepT r c e env st) _ _ := ha
  rw [h] at ha'
  exact ha'
theorem t_truth (g : Good T (n + 1) c X W) (S : Sound T r n) {e : PySem.Expr} (hp : ∀ whole, isTrue e X.env whole = (do let v ← whole; standAt e.pos; holding [v] (truthy v)))
    (h : ∀ env st, stepT r c e env st = (r.E c e env st).bind fun x st => match truth st x with | some k => .ok k st | none => .bad) : PT X e (tT X W (step T r) c e) := by
  refine PT.mono (pt_truth (S.ex c X W g.down e) hp) fun σ H Q ⟨ρ, st, env, hs, he, ha⟩ => ?_
  have ha' : After X.K X.mg ρ H (stepT r c e env st) _ _ := ha
  rw [h] at ha'
  refine ⟨ρ, st, env, hs, he, ha'.first.mono fun d ρ1 st1 H1 hs1 hx1 hk v rv => ?_⟩
  cases hk1 : truth st1 d with
  | none => rw [hk1] at hk; exact hk.elim
  | some k =>
    rw [hk1] at hk
    exact ⟨k, truth_ok hs1 hk1 rv, hk.okv hs1⟩
theorem t_step (g : Good T (n + 1) c X W) (S : Sound T r n) (e : PySem.Expr) : PT X e (tT X W (step T r) c e) := by
  have hE := S.ex c X W g.down
  have hT := S.te c X W g.down
  cases e with
  | UnaryOp op a p =>
    cases op with
    | Not =>
      refine PT.mono (pt_not (hT a)) fun σ H Q ⟨ρ, st, env, hs, he, ha⟩ => ?_
      have ha' : After X.K X.mg ρ H ((r.T c a env st).bind fun k st => .ok (!k) st) _ _ := ha
      exact ⟨ρ, st, env, hs, he, ha'.first.mono fun d ρ1 st1 H1 hs1 hx1 hk => hk.okv hs1⟩
    | _ => exact t_truth g S (fun _ => rfl) fun _ _ => rfl
  | BoolOp op vs p =>
    cases vs with
    | nil => cases op <;> exact t_bad fun _ _ => rfl
    | cons a es =>
      cases es with
      | nil =>
        cases op with
        | And => exact PT.mono (pw_and1 (hT a)).pt fun σ H Q ⟨ρ, st, env, hs, he, ha⟩ => ⟨ρ, st, env, hs, he, ha⟩
        | Or => exact PT.mono (pw_or1 (hT a)).pt fun σ H Q ⟨ρ, st, env, hs, he, ha⟩ => ⟨ρ, st, env, hs, he, ha⟩
      | cons b es =>
        have hB := hT (.BoolOp op (b :: es) p)
        cases op with
        | And =>
          refine PT.mono (pw_and (hT a) (tB' := tT X W r c (.BoolOp .And (b :: es) p)) ⟨fun wh pins s σ H Q I q => hB.run pins s σ H Q I q⟩).pt fun σ H Q ⟨ρ, st, env, hs, he, ha⟩ => ?_
          have ha' : After X.K X.mg ρ H ((r.T c a env st).bind fun k st => if k then r.T c (.BoolOp .And (b :: es) p) env st else .ok false st) _ _ := ha
          refine ⟨ρ, st, env, hs, he, ha'.first.mono fun k ρ1 st1 H1 hs1 hx1 hk => ?_⟩
          cases k with
          | true => rw [if_pos rfl] at hk ⊢; exact ⟨ρ1, st1, env, hs1, he.ext hx1, hk⟩
          | false => rw [if_neg Bool.false_ne_true] at hk ⊢; exact hk.okv hs1
        | Or =>
          refine PT.mono (pw_or (hT a) (tB' := tT X W r c (.BoolOp .Or (b :: es) p)) ⟨fun wh pins s σ H Q I q => hB.run pins s σ H Q I q⟩).pt fun σ H Q ⟨ρ, st, env, hs, he, ha⟩ => ?_
          have ha' : After X.K X.mg ρ H ((r.T c a env st).bind fun k st => if k then .ok true st else r.T c (.BoolOp .Or (b :: es) p) env st) _ _ := ha
          refine ⟨ρ, st, env, hs, he, ha'.first.mono fun k ρ1 st1 H1 hs1 hx1 hk => ?_⟩
          cases k with
          | true => rw [if_pos rfl] at hk ⊢; exact hk.okv hs1
          | false => rw [if_neg Bool.false_ne_true] at hk ⊢; exact ⟨ρ1, st1, env, hs1, he.ext hx1, hk⟩
  | IfExp _ _ _ _ => exact t_bad fun _ _ => rfl
  | Compare a ops bs p =>
    match ops, bs with
    | [op], [b] =>
      by_cases hm : behindInMarks op b = true
      · refine t_bad fun env st => ?_
        show (if behindInMarks op b = true then R.bad else _) = R.bad
        rw [if_pos hm]
      · refine PT.mono (pt_cmpR (op_cmp g.units op) (hE a) (hE b) (by simpa using hm)) fun σ H Q ⟨ρ, st, env, hs, he, ha⟩ => ?_
        have ha' : After X.K X.mg ρ H (if behindInMarks op b = true then R.bad else (r.E c a env st).bind fun x st => (r.E c b env st).bind fun y st => match cmpop op x y st with | some k => .ok k st | none => .bad) _ _ := ha
        rw [if_neg hm] at ha'
        refine ⟨ρ, st, env, hs, he, ha'.first.mono fun x ρ1 st1 H1 hs1 hx1 hk v rv => ?_⟩
        refine ⟨ρ1, st1, env, hs1, he.ext hx1, hk.first.mono fun y ρ2 st2 H2 hs2 hx2 hk2 u ru => ?_⟩
        cases hk1 : cmpop op x y st2 with
        | none => rw [hk1] at hk2; exact hk2.elim
        | some k =>
          rw [hk1] at hk2
          exact ⟨ρ2, st2, x, y, k, hs2, rv.ext hx2, ru, hk1, k, rfl, hk2.okv hs2⟩
    | [], _ => exact t_bad fun _ _ => rfl
    | _ :: _ :: _, _ => exact t_bad fun _ _ => rfl
    | [_], [] => exact t_bad fun _ _ => rfl
    | [_], _ :: _ :: _ => exact t_bad fun _ _ => rfl
  | _ => exact t_truth g S (fun _ => rfl) fun _ _ => rfl
end
end Nd
end

section
set_option Elab.async false
set_option linter.all false
set_option maxRecDepth 100000
/-! NdF: targets, loops, statements, defs; the interpreter is right. -/
namespace Nd
open PySem PySem.Spec PyProof.Rows L2
section
variable {T : Tab} {n : Nat} {r : Sys} {c : Cc} {X : Cx} {W : WX}

/-! ### blocks and loops -/
theorem b_block (hS : ∀ s, PS X s (tS X W r c s)) : ∀ ss, PSs X ss (tB X W r c ss)
  | [] => PSs.mono pss_nil fun D σ H ⟨ρ, st, env, hs, he, ha⟩ => (show After _ _ _ _ (R.ok (Fl.nx, env) st) _ _ from ha).okv hs σ he
  | s :: ss => by
    refine PSs.mono (pss_cons (hS s) (b_block hS ss)) fun D σ H ⟨ρ, st, env, hs, he, ha⟩ => ?_
    have ha' : After X.K X.mg ρ H ((r.S c s env st).bind fun fe st => match fe.1 with | .nx => blockS r c ss fe.2 st | _ => .ok fe st) _ _ := ha
    refine ⟨ρ, st, env, hs, he, ha'.first.mono fun fe ρ1 st1 H1 hs1 hx1 hk => ?_⟩
    obtain ⟨f, env1⟩ := fe
    cases f with
    | nx => exact fun σ1 he1 => ⟨ρ1, st1, env1, hs1, he1, hk⟩
    | rt d => exact (show After _ _ _ _ (R.ok (Fl.rt d, env1) st1) _ _ from hk).okv hs1
    | bk => exact (show After _ _ _ _ (R.ok (Fl.bk, env1) st1) _ _ from hk).okv hs1
    | ct => exact (show After _ _ _ _ (R.ok (Fl.ct, env1) st1) _ _ from hk).okv hs1
/-- the loop over fixed items -/
theorem for_items {tg : PySem.Expr} {body : List PySem.Stmt} {J : It} {De : Ends} {l : List D} {ρ : List Addr} {st : Store} {env : Env} {σ : L2.St} {H : Hp} (w : Walks X J ρ H l)
    (hs : Sim X.K X.mg ρ st H) (he : EnvR X.K X.mg ρ H env σ) (ha : After X.K X.mg ρ H (forItems (bindT c tg) (blockS r c body) l env st) (fun fe ρ' _ H' => endP X De fe ρ' H') (EW X W)) :
    ∃ Wi : Nat → Nat → L2.St → Hp → Prop, (∃ m, Wi 0 m σ H) ∧ ∀ i m σ H, Wi i m σ H →
      (J.stop i H ∧ De.nx σ H) ∨ (J.go i H ∧ ∃ N : L2.St → Hp → Prop, (∀ σ' H', N σ' H' → ∃ m', m' < m ∧ Wi (i + 1) m' σ' H') ∧ ∀ x H', J.yld i H x H' → tG X c tg x σ H' fun σ2 H2 => tB X W r c body { De with nx := N, ct := N, bk := De.nx } σ2 H2) := by
  refine ⟨fun i m σ' H' => m = l.length - i ∧ i ≤ l.length ∧ ∃ ρ' st' env', Ext ρ H ρ' H' ∧ Sim X.K X.mg ρ' st' H' ∧ EnvR X.K X.mg ρ' H' env' σ' ∧
    After X.K X.mg ρ' H' (forItems (bindT c tg) (blockS r c body) (l.drop i) env' st') (fun fe ρ' _ H' => endP X De fe ρ' H') (EW X W), ⟨l.length, by simp, Nat.zero_le _, ρ, st, env, Ext.refl, hs, he, ha⟩, ?_⟩
  rintro i m σ1 H1 ⟨rfl, hi, ρ1, st1, env1, hx1, hs1, he1, ha1⟩
  by_cases hlt : i < l.length
  · refine .inr ⟨w.go hx1 i hlt, fun σ' H' => i + 1 ≤ l.length ∧ ∃ ρ' st' env', Ext ρ H ρ' H' ∧ Sim X.K X.mg ρ' st' H' ∧ EnvR X.K X.mg ρ' H' env' σ' ∧
      After X.K X.mg ρ' H' (forItems (bindT c tg) (blockS r c body) (l.drop (i + 1)) env' st') (fun fe ρ' _ H' => endP X De fe ρ' H') (EW X W), fun σ' H' h => ⟨l.length - (i + 1), by omega, rfl, h⟩, fun x H2 hy => ?_⟩
    obtain ⟨rfl, rx⟩ := w.yld hx1 i l[i] x H2 (List.getElem?_eq_getElem hlt) hy
    rw [List.drop_eq_getElem_cons hlt] at ha1
    unfold forItems at ha1
    cases hb : bindT c tg l[i] env1 with
    | none => rw [hb] at ha1; exact ha1.elim
    | some env2 =>
      rw [hb] at ha1
      refine ⟨ρ1, st1, env1, l[i], env2, hs1, he1, rx, hb, fun σ2 he2 _ => ⟨ρ1, st1, env2, hs1, he2, ha1.first.mono fun fe ρ2 st2 H2 hs2 hx2 hk => ?_⟩⟩
      obtain ⟨f, env3⟩ := fe
      cases f with
      | nx => exact fun σ3 he3 => ⟨hlt, ρ2, st2, env3, hx1.trans hx2, hs2, he3, hk⟩
      | ct => exact fun σ3 he3 => ⟨hlt, ρ2, st2, env3, hx1.trans hx2, hs2, he3, hk⟩
      | bk => exact (show After _ _ _ _ (R.ok (Fl.nx, env3) st2) _ _ from hk).okv hs2
      | rt d => exact (show After _ _ _ _ (R.ok (Fl.rt d, env3) st2) _ _ from hk).okv hs2
  · have e : i = l.length := by omega
    subst e
    rw [List.drop_length] at ha1
    exact .inl ⟨w.stop hx1 _ (Nat.le_refl _), (show After _ _ _ _ (R.ok (Fl.nx, env1) st1) _ _ from ha1).okv hs1 σ1 he1⟩
/-- the loop over a list as it stands -/
theorem for_list' {tg : PySem.Expr} {body : List PySem.Stmt} {De : Ends} {k : Nat} {a : Addr} {fuel : Nat} {ρ : List Addr} {st : Store} {env : Env} {σ : L2.St} {H : Hp} (hk : ρ[k]? = some a)
    (hs : Sim X.K X.mg ρ st H) (he : EnvR X.K X.mg ρ H env σ) (ha : After X.K X.mg ρ H (forList k (bindT c tg) (blockS r c body) fuel 0 env st) (fun fe ρ' _ H' => endP X De fe ρ' H') (EW X W)) :
    ∃ Wi : Nat → Nat → L2.St → Hp → Prop, (∃ m, Wi 0 m σ H) ∧ ∀ i m σ H, Wi i m σ H →
      ((Itl X.K a).stop i H ∧ De.nx σ H) ∨ ((Itl X.K a).go i H ∧ ∃ N : L2.St → Hp → Prop, (∀ σ' H', N σ' H' → ∃ m', m' < m ∧ Wi (i + 1) m' σ' H') ∧ ∀ x H', (Itl X.K a).yld i H x H' → tG X c tg x σ H' fun σ2 H2 => tB X W r c body { De with nx := N, ct := N, bk := De.nx } σ2 H2) := by
  refine ⟨fun i m σ' H' => ∃ ρ' st' env', ρ'[k]? = some a ∧ Sim X.K X.mg ρ' st' H' ∧ EnvR X.K X.mg ρ' H' env' σ' ∧
    After X.K X.mg ρ' H' (forList k (bindT c tg) (blockS r c body) m i env' st') (fun fe ρ' _ H' => endP X De fe ρ' H') (EW X W), ⟨fuel, ρ, st, env, hk, hs, he, ha⟩, ?_⟩
  rintro i m σ1 H1 ⟨ρ1, st1, env1, hk1, hs1, he1, ha1⟩
  cases m with
  | zero => exact ha1.elim
  | succ m =>
    unfold forList at ha1
    cases hl : listAt st1 k with
    | none => rw [hl] at ha1; exact ha1.elim
    | some l =>
      rw [hl] at ha1
      obtain ⟨xs, ex, rl⟩ := hs1.list hl hk1
      cases hd : l[i]? with
      | none =>
        simp only [hd] at ha1
        refine .inl ⟨⟨xs, .of ex, ?_⟩, (show After _ _ _ _ (R.ok (Fl.nx, env1) st1) _ _ from ha1).okv hs1 σ1 he1⟩
        rw [← rl.length]
        exact List.getElem?_eq_none_iff.mp hd
      | some d =>
        simp only [hd] at ha1
        obtain ⟨v, hv, rv⟩ := rl.get hd
        refine .inr ⟨⟨xs, v, .of ex, hv⟩, fun σ' H' => ∃ ρ' st' env', ρ'[k]? = some a ∧ Sim X.K X.mg ρ' st' H' ∧ EnvR X.K X.mg ρ' H' env' σ' ∧
          After X.K X.mg ρ' H' (forList k (bindT c tg) (blockS r c body) m (i + 1) env' st') (fun fe ρ' _ H' => endP X De fe ρ' H') (EW X W), fun σ' H' h => ⟨m, Nat.lt_succ_self m, h⟩, fun x H2 hy => ?_⟩
        obtain ⟨rfl, hy⟩ := hy
        have e1 := hy xs (.of ex)
        rw [hv] at e1
        cases e1
        cases hb : bindT c tg d env1 with
        | none => rw [hb] at ha1; exact ha1.elim
        | some env2 =>
          rw [hb] at ha1
          refine ⟨ρ1, st1, env1, d, env2, hs1, he1, rv, hb, fun σ2 he2 _ => ⟨ρ1, st1, env2, hs1, he2, ha1.first.mono fun fe ρ2 st2 H2 hs2 hx2 hk => ?_⟩⟩
          obtain ⟨f, env3⟩ := fe
          cases f with
          | nx => exact fun σ3 he3 => ⟨ρ2, st2, env3, hx2.ix hk1, hs2, he3, hk⟩
          | ct => exact fun σ3 he3 => ⟨ρ2, st2, env3, hx2.ix hk1, hs2, he3, hk⟩
          | bk => exact (show After _ _ _ _ (R.ok (Fl.nx, env3) st2) _ _ from hk).okv hs2
          | rt d => exact (show After _ _ _ _ (R.ok (Fl.rt d, env3) st2) _ _ from hk).okv hs2
theorem comp_swaps {e : PySem.Expr} {tg : Option PySem.Expr} {l : Nat} {env : PySem.Env} (h : isComp e = false) : swapsWith e tg l env = pure false := by
  cases e <;> first | rfl | cases h
theorem foldedSet {iter : PySem.Expr} {env : PySem.Env} (h : isSetE iter = false) : ∀ x, foldedSetIterable iter env x = pure x := by
  intro x
  cases iter <;> first | rfl | cases h
theorem s_bad {s : PySem.Stmt} (h : ∀ env st, stepS T r c s env st = .bad) : PS X s (tS X W (step T r) c s) := PS.no fun De σ H ⟨ρ, st, env, hs, he, ha⟩ => by
  have ha' : After X.K X.mg ρ H (stepS T r c s env st) _ _ := ha
  rw [h] at ha'
  exact ha'
/-! ### x, y = a, b -/
theorem parE_some {ts : List PySem.Expr} {e : PySem.Expr} {x y : Str} {px py : Pos} {a b : PySem.Expr} (h : parE ts e = some (x, px, y, py, a, b)) : ts = [.Name x px, .Name y py] ∧ ∃ k q, e = .Tuple [a, b] k q := by
  unfold parE at h
  split at h
  · cases h
    exact ⟨rfl, _, _, rfl⟩
  · cases h
theorem noStarL : ∀ {l : List PySem.Expr}, (∀ a ∈ l, isStar a = false) → (l.any fun | .Starred .. => true | _ => false) = false
  | [], _ => rfl
  | a :: l, h => by
    rw [List.any_cons, noStarL fun b hb => h b (List.mem_cons_of_mem _ hb), Bool.or_false]
    have h1 := h a List.mem_cons_self
    revert h1
    clear h
    cases a <;> first | exact fun _ => rfl | exact fun h => nomatch h
theorem dups2 {x y : Str} (h : (x == y) = false) : [x, y].eraseDups = [x, y] := by
  have h' : (y == x) = false := by
    have : x ≠ y := by simpa using h
    simpa using Ne.symm this
  rw [List.eraseDups_cons]
  have e : (List.filter (fun b => !b == x) [y]) = [y] := by simp [h']
  rw [e, List.eraseDups_cons]
  rfl
theorem sw_of {sc : Scope} {env : PySem.Env} {x y : Str} {px py pt pt2 : Pos} {kt k2 : Nat} {a b : PySem.Expr} (h : parOk sc x y px py a b = true) (hs : env.scope = sc) : swappedStores [.Tuple [.Name x px, .Name y py] kt pt] (.Tuple [a, b] k2 pt2) env = pure (some [x, y]) := by
  subst hs
  unfold parOk at h
  simp only [Bool.and_eq_true, beq_iff_eq, Bool.not_eq_true', Bool.not_eq_true] at h
  obtain ⟨⟨⟨⟨⟨⟨⟨⟨h1, h2⟩, h3⟩, h4⟩, h5⟩, h6⟩, h7⟩, h8⟩, h9⟩ := h
  have kx : env.kindOf x = some .local := h2
  have ky : env.kindOf y = some .local := h3
  have bk : env.blockKind = .function := by unfold Env.blockKind; rw [h1]; rfl
  have st := noStarL (l := [a, b]) fun e he => by
    rcases List.mem_cons.mp he with rfl | he
    · exact h6
    · rw [List.mem_singleton.mp he]
      exact h7
  have c1 : (!([PySem.Expr.Name x px, .Name y py].length == 2 || [PySem.Expr.Name x px, .Name y py].length == 3) || [a, b].length != [PySem.Expr.Name x px, .Name y py].length || env.blockKind != ScopeKind.function) = false := by rw [bk]; rfl
  have f : ∀ (g : PySem.Expr → Option Str), g (.Name x px) = some x → g (.Name y py) = some y → List.filterMap g [PySem.Expr.Name x px, .Name y py] = [x, y] := fun g h1 h2 => by
    rw [List.filterMap_cons, h1, List.filterMap_cons, h2]
    rfl
  have c3 : ([x, y].length != [PySem.Expr.Name x px, .Name y py].length || [x, y].eraseDups.length != [x, y].length) = false := by
    rw [dups2 h5]
    rfl
  unfold swappedStores
  simp only [pure_bind]
  refine (if_neg (fun z => Bool.false_ne_true (c1.symm.trans z))).trans ?_
  refine (if_neg (fun z => Bool.false_ne_true (st.symm.trans z))).trans ?_
  rw [f _ (show (if (env.kindOf x == some .local && px.line == px.line) = true then some x else none) = some x by simp [kx]) (show (if (env.kindOf y == some .local && py.line == px.line) = true then some y else none) = some y by simp [ky, h4])]
  refine (if_neg (fun z => Bool.false_ne_true (c3.symm.trans z))).trans ?_
  refine (if_neg (fun z => Bool.false_ne_true (h8.symm.trans z))).trans ?_
  exact if_neg (fun z => Bool.false_ne_true (h9.symm.trans z))
theorem s_par (g : Good T (n + 1) c X W) (hE : ∀ e, PE X e (tE X W r c e)) (ts : List PySem.Expr) (e : PySem.Expr) (k : Nat) (q p : Pos) : PS X (.Assign [.Tuple ts k q] e p) (tS X W (step T r) c (.Assign [.Tuple ts k q] e p)) := by
  cases hp : parE ts e with
  | none =>
    refine s_bad fun env st => ?_
    show (match parE ts e with | some (x, px, y, py, a, b) => _ | none => R.bad) = R.bad
    rw [hp]
  | some w =>
    obtain ⟨x, px, y, py, a, b⟩ := w
    obtain ⟨rfl, k2, p2, rfl⟩ := parE_some hp
    by_cases hc : (c.calm && parOk c.sc x y px py a b) = true
    rotate_left
    · refine s_bad fun env st => ?_
      show (if (c.calm && parOk c.sc x y px py a b) = true then _ else R.bad) = R.bad
      rw [if_neg hc]
    obtain ⟨hcm, hpo⟩ := Bool.and_eq_true_iff.mp hc
    have hpo' := hpo
    unfold parOk at hpo'
    simp only [Bool.and_eq_true, beq_iff_eq, Bool.not_eq_true', Bool.not_eq_true] at hpo'
    obtain ⟨⟨⟨⟨⟨⟨⟨⟨h1, h2⟩, h3⟩, h4⟩, h5⟩, h6⟩, h7⟩, h8⟩, h9⟩ := hpo'
    have nxy : x ≠ y := by simpa using h5
    cases hi : ixOf c.N x with
    | none =>
      refine s_bad fun env st => ?_
      show (if (c.calm && parOk c.sc x y px py a b) = true then (match ixOf c.N x, ixOf c.N y with | some i, some j => _ | _, _ => R.bad) else R.bad) = R.bad
      rw [if_pos hc, hi]
    | some i =>
      cases hj : ixOf c.N y with
      | none =>
        refine s_bad fun env st => ?_
        show (if (c.calm && parOk c.sc x y px py a b) = true then (match ixOf c.N x, ixOf c.N y with | some i, some j => _ | _, _ => R.bad) else R.bad) = R.bad
        rw [if_pos hc, hi, hj]
      | some j =>
        have ei := ixOf_some hi
        have ej := ixOf_some hj
        have nij : i ≠ j := fun z => by
          rw [z, ej] at ei
          cases ei
          exact nxy rfl
        refine PS.mono (ps_par (g.calm hcm) (by rw [g.N]; exact g.nd) (by rw [g.N]; exact ei) (by rw [g.N]; exact ej) nij (by rw [g.sc]; exact h2) (by rw [g.sc]; exact h3) (pa_cons (hE a) (pa_cons (hE b) pa_nil (isStar_of (by simpa using h7))) (isStar_of (by simpa using h6))) (sw_of hpo g.sc)) fun De σ H ⟨ρ, st, env, hs, he, ha⟩ => ?_
        have ha' : After X.K X.mg ρ H (if (c.calm && parOk c.sc x y px py a b) = true then (match ixOf c.N x, ixOf c.N y with | some i, some j => (r.E c a env st).bind fun v st => (r.E c b env st).bind fun w st => .ok (Fl.nx, (env.set i (some v)).set j (some w)) st | _, _ => R.bad) else R.bad) (fun fe ρ' _ H' => endP X De fe ρ' H') (EW X W) := ha
        rw [if_pos hc, hi, hj] at ha'
        refine ⟨ρ, st, env, hs, he, ha'.first.mono fun d ρ1 st1 H1 hs1 hx1 hk v rv => ?_⟩
        refine ⟨ρ1, st1, env, hs1, he.ext hx1, hk.first.mono fun d2 ρ2 st2 H2 hs2 hx2 hk2 w rw' => ?_⟩
        exact ⟨v, w, rfl, (show After _ _ _ _ (R.ok (Fl.nx, (env.set i (some d)).set j (some d2)) st2) _ _ from hk2).okv hs2 _ ((((he.ext hx1).ext hx2).set i (rv.ext hx2)).set j rw')⟩
theorem s_step (g : Good T (n + 1) c X W) (S : Sound T r n) (s : PySem.Stmt) : PS X s (tS X W (step T r) c s) := by
  have hE := S.ex c X W g.down
  have hT := S.te c X W g.down
  have hS := S.st c X W g.down
  have hB := b_block hS
  cases s with
  | Pass p => exact PS.mono ps_pass fun De σ H ⟨ρ, st, env, hs, he, ha⟩ => (show After _ _ _ _ (R.ok (Fl.nx, env) st) _ _ from ha).okv hs σ he
  | Break p => exact PS.mono ps_break fun De σ H ⟨ρ, st, env, hs, he, ha⟩ => (show After _ _ _ _ (R.ok (Fl.bk, env) st) _ _ from ha).okv hs σ he
  | Continue p => exact PS.mono ps_continue fun De σ H ⟨ρ, st, env, hs, he, ha⟩ => (show After _ _ _ _ (R.ok (Fl.ct, env) st) _ _ from ha).okv hs σ he
  | Return e p =>
    cases e with
    | none => exact PS.mono ps_retN fun De σ H ⟨ρ, st, env, hs, he, ha⟩ => (show After _ _ _ _ (R.ok (Fl.rt .non, env) st) _ _ from ha).okv hs _ .non
    | some e =>
      refine PS.mono (ps_ret (hE e)) fun De σ H ⟨ρ, st, env, hs, he, ha⟩ => ?_
      have ha' : After X.K X.mg ρ H ((r.E c e env st).bind fun d st => .ok (Fl.rt d, env) st) _ _ := ha
      exact ⟨ρ, st, env, hs, he, ha'.first.mono fun d ρ1 st1 H1 hs1 hx1 hk => hk.okv hs1⟩
  | Expr e p =>
    by_cases hc : isComp e = true
    · refine s_bad fun env st => ?_
      show (if isComp e = true then R.bad else _) = R.bad
      rw [if_pos hc]
    · refine PS.mono (ps_expr (hE e) (comp_swaps (by simpa using hc))) fun De σ H ⟨ρ, st, env, hs, he, ha⟩ => ?_
      have ha' : After X.K X.mg ρ H (if isComp e = true then R.bad else (r.E c e env st).bind fun _ st => .ok (Fl.nx, env) st) _ _ := ha
      rw [if_neg hc] at ha'
      exact ⟨ρ, st, env, hs, he, ha'.first.mono fun d ρ1 st1 H1 hs1 hx1 hk v rv => hk.okv hs1 σ (he.ext hx1)⟩
  | If t a b p =>
    refine PS.mono (ps_if (hT t) (hB a) (hB b)) fun De σ H ⟨ρ, st, env, hs, he, ha⟩ => ?_
    have ha' : After X.K X.mg ρ H ((r.T c t env st).bind fun k st => if k then blockS r c a env st else blockS r c b env st) _ _ := ha
    refine ⟨ρ, st, env, hs, he, ha'.first.mono fun k ρ1 st1 H1 hs1 hx1 hk => ?_⟩
    cases k with
    | true => rw [if_pos rfl] at hk ⊢; exact ⟨ρ1, st1, env, hs1, he.ext hx1, hk⟩
    | false => rw [if_neg Bool.false_ne_true] at hk ⊢; exact ⟨ρ1, st1, env, hs1, he.ext hx1, hk⟩
  | Assign ts e p =>
    match ts with
    | [.Name x q] =>
      by_cases hc : isComp e = true
      · refine s_bad fun env st => ?_
        show (if isComp e = true then R.bad else _) = R.bad
        rw [if_pos hc]
      cases ht : tslot c x with
      | none =>
        refine s_bad fun env st => ?_
        show (if isComp e = true then R.bad else match tslot c x with | some i => _ | none => R.bad) = R.bad
        rw [if_neg hc, ht]
      | some i =>
        obtain ⟨h2, h3, h4⟩ := tslot_some g ht
        refine PS.mono (ps_set (i := i) (by rw [g.N]; exact g.nd) h2 h3 (hE e) (comp_swaps (by simpa using hc)) h4) fun De σ H ⟨ρ, st, env, hs, he, ha⟩ => ?_
        have ha' : After X.K X.mg ρ H (if isComp e = true then R.bad else match tslot c x with | some i => (r.E c e env st).bind fun d st => .ok (Fl.nx, env.set i (some d)) st | none => R.bad) _ _ := ha
        rw [if_neg hc, ht] at ha'
        refine ⟨ρ, st, env, hs, he, ha'.first.mono fun d ρ1 st1 H1 hs1 hx1 hk v rv => ?_⟩
        exact hk.okv hs1 _ ((he.ext hx1).set i rv)
    | [.Subscript o i q] =>
      by_cases hc : (isComp e || isSlice i) = true
      · refine s_bad fun env st => ?_
        show (if (isComp e || isSlice i) = true then R.bad else _) = R.bad
        rw [if_pos hc]
      have hc1 : isComp e = false := by
        cases h : isComp e with
        | false => rfl
        | true => rw [h] at hc; simp at hc
      have hc2 : isSlice i = false := by
        cases h : isSlice i with
        | false => rfl
        | true => rw [h] at hc; simp at hc
      refine PS.mono (ps_asg (hE e) (pg_sub (hE o) (hE i) set_ok (by cases i <;> first | (intro v; rfl) | cases hc2)) (show swapsWithSole [.Subscript o i q] e p.line X.env = pure false from comp_swaps (tg := some (.Subscript o i q)) (l := p.line) (env := X.env) hc1)) fun De σ H ⟨ρ, st, env, hs, he, ha⟩ => ?_
      have ha' : After X.K X.mg ρ H (if (isComp e || isSlice i) = true then R.bad else (r.E c e env st).bind fun v st => (r.E c o env st).bind fun x st => (r.E c i env st).bind fun y st => match setItemD x y v st with | some st => .ok (Fl.nx, env) st | none => .bad) _ _ := ha
      rw [if_neg hc] at ha'
      refine ⟨ρ, st, env, hs, he, ha'.first.mono fun a ρ1 st1 H1 hs1 hx1 hk v rv => ?_⟩
      refine ⟨ρ1, st1, env, hs1, he.ext hx1, hk.first.mono fun x ρ2 st2 H2 hs2 hx2 hk2 u ru => ?_⟩
      refine ⟨ρ2, st2, env, hs2, he.ext (hx1.trans hx2), hk2.first.mono fun y ρ3 st3 H3 hs3 hx3 hk3 w' rw' => ?_⟩
      cases hd : setItemD x y a st3 with
      | none => rw [hd] at hk3; exact hk3.elim
      | some st4 =>
        rw [hd] at hk3
        exact ⟨ρ3, st3, x, y, a, st4, hs3, ru.ext hx3, rw', rv.ext (hx2.trans hx3), hd, fun ρ4 H4 hs4 hx4 => hk3 ρ4 H4 hs4 hx4 σ (he.ext ((hx1.trans (hx2.trans hx3)).trans hx4))⟩
    | [] => exact s_bad fun _ _ => rfl
    | a :: b :: l => cases a <;> exact s_bad fun _ _ => rfl
    | [.Tuple ts k q] => exact s_par g hE ts e k q p
    | [.Attribute _ _ _] => exact s_bad fun _ _ => rfl
    | [.List _ _] => exact s_bad fun _ _ => rfl
    | [.Starred _ _] => exact s_bad fun _ _ => rfl
    | [.BoolOp _ _ _] => exact s_bad fun _ _ => rfl
    | [.NamedExpr _ _ _] => exact s_bad fun _ _ => rfl
    | [.BinOp _ _ _ _] => exact s_bad fun _ _ => rfl
    | [.UnaryOp _ _ _] => exact s_bad fun _ _ => rfl
    | [.Lambda _ _ _ _] => exact s_bad fun _ _ => rfl
    | [.IfExp _ _ _ _] => exact s_bad fun _ _ => rfl
    | [.Dict _ _ _] => exact s_bad fun _ _ => rfl
    | [.Set _ _ _] => exact s_bad fun _ _ => rfl
    | [.ListComp _ _ _ _] => exact s_bad fun _ _ => rfl
    | [.SetComp _ _ _ _] => exact s_bad fun _ _ => rfl
    | [.DictComp _ _ _ _ _] => exact s_bad fun _ _ => rfl
    | [.GeneratorExp _ _ _ _] => exact s_bad fun _ _ => rfl
    | [.Await _ _] => exact s_bad fun _ _ => rfl
    | [.Yield _ _] => exact s_bad fun _ _ => rfl
    | [.YieldFrom _ _] => exact s_bad fun _ _ => rfl
    | [.Compare _ _ _ _] => exact s_bad fun _ _ => rfl
    | [.Call _ _ _ _] => exact s_bad fun _ _ => rfl
    | [.FormattedValue _ _ _ _] => exact s_bad fun _ _ => rfl
    | [.JoinedStr _ _] => exact s_bad fun _ _ => rfl
    | [.Constant _ _ _] => exact s_bad fun _ _ => rfl
    | [.Slice _ _ _ _] => exact s_bad fun _ _ => rfl
  | For tg iter body els p =>
    cases els with
    | cons _ _ => exact s_bad fun _ _ => rfl
    | nil =>
      by_cases hc : (c.calm && !isSetE iter) = true
      rotate_left
      · refine s_bad fun env st => ?_
        show (if (c.calm && !isSetE iter) = true then _ else R.bad) = R.bad
        rw [if_neg hc]
      obtain ⟨hc1, hc2⟩ := Bool.and_eq_true_iff.mp hc
      refine PS.mono (ps_for g.own (g.calm hc1) (i_walk g S tg iter) (g_target g tg) (hB body) (foldedSet (by simpa using hc2))) fun De σ H ⟨ρ, st, env, hs, he, ha⟩ => ?_
      have ha' : After X.K X.mg ρ H (if (c.calm && !isSetE iter) = true then (walkE T r c iter env st).bind fun w st => forW w (bindT c tg) (blockS r c body) env st else R.bad) _ _ := ha
      rw [if_pos hc] at ha'
      refine ⟨ρ, st, env, hs, he, ha'.first.mono fun w ρ1 st1 H1 hs1 hx1 hk J hj => ?_⟩
      cases w with
      | items l => exact for_items hj hs1 (he.ext hx1) hk
      | lst m =>
        obtain ⟨a, ham, rfl⟩ := hj
        exact for_list' ham hs1 (he.ext hx1) hk
  | _ => exact s_bad fun _ _ => rfl

/-! ### a def -/
theorem start_env {K : PySem.W.Frag} {mg : Str → Option Value} {ρ : List Addr} {H : Hp} {N : List Str} {ds : List D} {vs : List V} (r : RepL K mg ρ H ds vs) : EnvR K mg ρ H (Nd.start N ds) (L2.start N vs) := by
  have hl := r.length
  refine ⟨by simp [Nd.start, L2.start, hl], fun i d h => ?_⟩
  unfold Nd.start at h
  by_cases hi : i < ds.length
  · rw [List.getElem?_append_left (by simpa using hi), List.getElem?_map] at h
    obtain ⟨d', h1, h2⟩ := Option.map_eq_some_iff.mp h
    cases h2
    obtain ⟨v, e, rv⟩ := r.get h1
    refine ⟨v, ?_, rv⟩
    unfold L2.start
    rw [List.getElem?_append_left (by simpa [← hl] using hi), List.getElem?_map, e]
    rfl
  · rw [List.getElem?_append_right (by simpa using hi), List.getElem?_replicate] at h
    split at h <;> cases h
end
theorem calls_step {T : Tab} {n : Nat} {r : Sys} (S : Sound T r n) : CallsOk T (step T r) (n + 1) := by
  intro P w K mg base gl fu ex x F f fd hF hfun
  obtain ⟨hd, hnb, f', fd', hm, hfun', hsc, hbi⟩ := fu.fns x F hF
  refine fnG_of hfun hsc (fun vs H Q E ⟨ρ, st, ds, hs, rd, hl, _⟩ => by rw [← rd.length]; exact hl) fun cdv A outer s H vs Q E hr hgd hsp => ?_
  obtain ⟨ρ, st, ds, hs, rd, hl, ha⟩ := hsp
  have g : Good T n ⟨defScope F.st, F.N, true, fun _ => true⟩ (cxOf (L2.CX P w) P w K mg base F.N F.qual (defScope F.st) f cdv A outer s H E) (fun cls d _ H => E cls d H) :=
    ⟨rfl, rfl, hsc.nd, hnb, fun _ => rfl, fun _ => hr, fun _ _ => rfl, gl, fu, by have := hr.un; show (A.deeper _).units + 65 < cLine; omega, takes_of rfl rfl rfl rfl, passes_of rfl, hgd, ex⟩
  refine ⟨_, b_block (S.st _ _ _ g) _, ρ, st, Nd.start F.N ds, hs, start_env rd, ?_⟩
  have ha' : After K mg ρ H (stepCall T r x ds st) (fun d ρ' _ H' => ∀ v, Rep K mg ρ' H' d v → Q v H') (fun e fs ρ' _ H' => ∀ cv dx, ExcR K mg e fs ρ' H' cv dx → E cv dx H') := ha
  unfold stepCall at ha'
  rw [hF] at ha'
  simp only [if_pos hl] at ha'
  have h1 := ha'.first
  have conv : ∀ {m : R (Fl × Env)}, After K mg ρ H m (fun fe ρ' st' H' => After K mg ρ' H' (match fe.1 with | .rt d => .ok d st' | .nx => .ok .non st' | _ => .bad) (fun d ρ' _ H' => ∀ v, Rep K mg ρ' H' d v → Q v H') (fun e fs ρ' _ H' => ∀ cv dx, ExcR K mg e fs ρ' H' cv dx → E cv dx H')) (fun e fs ρ' _ H' => ∀ cv dx, ExcR K mg e fs ρ' H' cv dx → E cv dx H') →
      After K mg ρ H m (fun fe ρ' _ H' => endP (cxOf (L2.CX P w) P w K mg base F.N F.qual (defScope F.st) f cdv A outer s H E) { nx := fun _ H' => Q .non H', rt := Q } fe ρ' H') (EW (cxOf (L2.CX P w) P w K mg base F.N F.qual (defScope F.st) f cdv A outer s H E) (fun cls d _ H => E cls d H)) := by
    intro m hm
    cases m with
    | bad => exact hm
    | err e fs st' => exact fun ρ' H' a b cv dx σ' ex => hm ρ' H' a b cv dx ex
    | ok fe st' =>
      intro ρ' H' hs' hx'
      have q := hm ρ' H' hs' hx'
      obtain ⟨fl, env'⟩ := fe
      cases fl with
      | nx => exact fun σ' _ => (show After _ _ _ _ (R.ok D.non st') _ _ from q).okv hs' _ .non
      | rt d => exact (show After _ _ _ _ (R.ok d st') _ _ from q).okv hs'
      | bk => exact q.elim
      | ct => exact q.elim
  exact conv h1
/-- THE INTERPRETER IS RIGHT -/
theorem sound (T : Tab) : ∀ n, Sound T (run T n) n
  | 0 => {
      ex := fun c X W g e => PE.no fun σ H Q ⟨ρ, st, env, hs, he, ha⟩ => ha
      te := fun c X W g e => PT.no fun σ H Q ⟨ρ, st, env, hs, he, ha⟩ => ha
      st := fun c X W g e => PS.no fun De σ H ⟨ρ, st, env, hs, he, ha⟩ => ha
      call := fun P w K mg base gl fu ex x F f fd hF hfun => ⟨fun vs H Q E ⟨ρ, st, ds, hs, rd, hl, _⟩ => by rw [← rd.length]; exact hl, fun A outer s H args us vs Q E hr hgd e0 hb hv ⟨ρ, st, ds, hs, rd, hl, ha⟩ => ha.elim⟩ }
  | n + 1 => {
      ex := fun c X W g e => e_step g (sound T n) e
      te := fun c X W g e => t_step g (sound T n) e
      st := fun c X W g s => s_step g (sound T n) s
      call := calls_step (sound T n) }
end Nd
end

section
set_option Elab.async false
set_option linter.all false
set_option maxRecDepth 100000
set_option maxHeartbeats 1000000
/-! NdH: the law's call, from the promise of its def. -/
namespace Nd
open PySem PySem.Spec PyProof.Rows L2
/-- the heap where the script alone is tracked -/
def oneH (a : Addr) (o : HO) : Hp := fun b => if b = a then some o else none
theorem oneH_same {a : Addr} {o : HO} : oneH a o a = some o := if_pos rfl
theorem oneH_ne {a b : Addr} {o : HO} (h : b ≠ a) : oneH a o b = none := if_neg h
section
variable {P : Program} {w : World} {K : PySem.W.Frag} {mg mb : Str → Option Value} {a : Addr} {s₁ : Shared} {vs : List Value} {ns : List Int}
theorem entryG (KX : K.In s₁.heap) (hns : s₁.heap.Ns mainGlobals mg) (hb : s₁.heap.Ns builtinsNs mb) (hbb : ∀ x : Str, x ≠ "__name__" → mb x = bootBuiltins x) (hlim : s₁.heap.NoLimit) (hg : s₁.gens = #[])
    (ha : s₁.heap.get? a = some { cls := .type "list", data := .seq vs.toArray }) (hi : IntsAre vs ns) (hl : ns.length ≤ sizeLine) :
    ∃ H base, Env0 P w K mg base callerA [] s₁ H ∧ K.In base ∧ base.Ns mainGlobals mg ∧ SqF K H a (ns.map V.int) ∧
      ∀ (s' : Shared) (H' : Hp), Un (frs []) [] H H' s₁.heap s'.heap → HOk P w H' s'.heap → OldK s₁.heap s'.heap := by
  have rv := vals_ints hi
  have nof : ∀ b, b ∉ frs [] := fun b z => by simp [frs] at z
  cases hk : K.lookup a with
  | some o =>
    have e : o = { cls := .type "list", data := .seq vs.toArray } := Option.some.inj ((KX a o hk).symm.trans ha)
    subst e
    refine ⟨fun _ => none, s₁.heap, ⟨rfl, ⟨KX, hns, ⟨mb, hb, hbb⟩, hlim⟩, fun b o e => ⟨e, rfl⟩, Nat.le_refl _, trivial, fun b hb => rfl, fun b o e => (nomatch e), .of_eq hg⟩, KX, hns, ?_, fun s' H' un hok => OldK.of_keep fun b o e => un.keep b o e rfl (nof b) (by simp)⟩
    exact .inr ⟨_, vs.toArray, _, hk, rfl, rfl, rfl, by rw [List.size_toArray, hi.length]; exact hl, rv⟩
  | none =>
    let u : HO := .frz { cls := .type "list", data := .seq vs.toArray } (.lst (ns.map V.int))
    have away : ∀ {b : Addr} {o : Obj} {es : Array DictEntry} {n : Nat}, s₁.heap.get? b = some o → o.data = .dict es n → b ≠ a := fun {b o es n} e d z => by
      subst z
      rw [ha] at e
      cases e
      cases d
    have stays : ∀ {b : Addr} {o : Obj}, s₁.heap.get? b = some o → b ≠ a → (hidT s₁.heap (oneH a u)).get? b = some o := fun e n => hidT_get e (oneH_ne n)
    have nsB : ∀ {b : Addr} {m : Str → Option Value}, s₁.heap.Ns b m → (hidT s₁.heap (oneH a u)).Ns b m := fun ⟨o, es, n, e, d, r⟩ => ⟨o, es, n, stays e (away e d), d, r⟩
    have kB : K.In (hidT s₁.heap (oneH a u)) := fun b o e => stays (KX b o e) fun z => by
      rw [z, hk] at e
      cases e
    have okU : ObjOk P w (oneH a u) s₁.heap a u := ⟨ha, by rw [List.length_map]; exact hl, vs, _, rv, ha⟩
    refine ⟨oneH a u, hidT s₁.heap (oneH a u), ⟨rfl, ⟨kB, nsB hns, ⟨mb, nsB hb, hbb⟩, let ⟨mc, h1, h2⟩ := hlim; ⟨mc, nsB h1, h2⟩⟩, fun b o e => of_hidT e, Nat.le_of_eq (hidT_size _ _), trivial, fun b hb => (nof b hb).elim, fun b o e => ?_, .of_eq hg⟩, kB, nsB hns, .inl ⟨_, oneH_same⟩, fun s' H' un hok => OldK.of_keep fun b o e => ?_⟩
    · by_cases z : b = a
      · subst z
        rw [oneH_same] at e
        cases e
        exact okU
      · rw [oneH_ne z] at e
        cases e
    · by_cases z : b = a
      · subst z
        have e2 := un.frzs b _ _ oneH_same
        have e3 : s'.heap.get? b = some { cls := .type "list", data := .seq vs.toArray } := (hok b _ e2).1
        rw [ha] at e
        cases e
        exact e3
      · exact un.keep b o e (oneH_ne z) (nof b) (by simp)
end
/-- the law's promise: True for every script -/
def spLaw (K : PySem.W.Frag) (n : Nat) : Sp := fun vs H Q _ => ∃ (a : Addr) (ns : List Int), vs = [.ref a] ∧ ns.length ≤ n ∧ SqF K H a (ns.map V.int) ∧ ∀ H', Q (.bl true) H'
theorem walkG {l : PySem.W.OpenLaw} {n k : Nat} {q : Program} {loose : List Str} {XP : (Str → Option Value) → Heap → Prop} {YP : World → Heap → Prop} {d : DefRec} {K : Params → PySem.W.Frag} {x : Str}
    (hn : l.most = some n) (hn2 : n ≤ sizeLine) (hdf : d.params.defaults = []) (hr : Room k callerA)
    (hY : ∀ (w : World) (h : Heap), YP w h → (K w.params).In h)
    (F : ∀ (w : World) (mg : Str → Option Value) (fa : Addr) (h : Heap), (K w.params).In h → h.Ns mainGlobals mg → mg d.name = some (.ref fa) →
      ∃ fd : FuncData, (∀ (s : Shared) (u : Value), BindsTo s fd ⟨[u], []⟩ [(x, u)]) ∧
        ∀ base : Heap, (K w.params).In base → base.Ns mainGlobals mg → FnG l.prog w (K w.params) mg base (L2.CX l.prog w) k fa fd [x] (spLaw (K w.params) n)) :
    PySem.W.WalkO q loose XP YP l.row.toRowW d [] (fun f vs => PySem.call f vs) := by
  refine Att.attach_call hn hdf fun w s₀ s₁ mg mb fa o pm cd doc a vs ns G Y ho hd hcd hmg hobj hints hlen hg => ?_
  obtain ⟨fd, hb, hF⟩ := F w mg fa _ (hY w _ Y) G.T.g hmg
  obtain ⟨H, base, e0, kb, nb, sq, old⟩ := entryG (P := l.prog) (w := w) (hY w _ Y) G.T.g G.T.b G.T.builtins G.T.nolimit hg hobj hints (Nat.le_trans hlen hn2)
  refine codeAny_mono ((hF base kb nb).run callerA [] s₁ H ⟨[.ref a], []⟩ [.ref a] [.ref a] (fun v _ => v = .bl true) (fun _ _ _ => False) hr rfl e0 (hb s₁ (.ref a)) (.cons rfl .nil) ⟨a, ns, rfl, hlen, sq, fun _ => rfl⟩) fun r s' h => ?_
  match r, h with
  | .error e, h =>
    obtain ⟨_, _, _, _, _, _, _, _, _, _, _, _, z⟩ := h
    exact z.elim
  | .ok (.ret u), h =>
    obtain ⟨v, H', os, bare, un, hok, rv, q⟩ := h
    have q' : v = .bl true := q
    subst q'
    obtain rfl : u = Value.bool true := rv
    exact ⟨rfl, old s' H' un hok, os, bare⟩
end Nd
end

section
set_option Elab.async false
set_option linter.all false
set_option maxRecDepth 100000
set_option maxHeartbeats 1000000
/-! NdM: the tables' facts, from checks of the written part. -/
namespace Nd
open PySem PySem.Spec PyProof.Rows L2
def AllP {α : Type} (p : α → Prop) : List α → Prop
  | [] => True
  | a :: l => p a ∧ AllP p l
theorem AllP.mem {α : Type} {p : α → Prop} : ∀ {l : List α} {a : α}, AllP p l → a ∈ l → p a
  | b :: l, a, ⟨h1, h2⟩, m => by
    rcases List.mem_cons.mp m with e | m
    · exact e ▸ h1
    · exact h2.mem m
theorem lookup_mem' {α : Type} : ∀ {l : List (Str × α)} {x : Str} {a : α}, l.lookup x = some a → (x, a) ∈ l
  | (y, b) :: l, x, a, h => by
    rw [List.lookup_cons] at h
    split at h
    · rename_i e
      cases h
      exact (eq_of_beq e) ▸ List.mem_cons_self
    · exact List.mem_cons_of_mem _ (lookup_mem' h)
theorem AllP.at {α : Type} {p : Str × α → Prop} {l : List (Str × α)} {x : Str} {a : α} (h : AllP p l) (e : l.lookup x = some a) : p (x, a) := h.mem (lookup_mem' e)
section
variable {K : PySem.W.Frag} {mg : Str → Option Value} {h : Heap}
/-- what FunOk asks of one def -/
def FnP (K : PySem.W.Frag) (mg : Str → Option Value) (p : Str × Fn) : Prop := (p.1 == ("__debug__" : Str)) = false ∧ (∀ y ∈ p.2.N, (y == ("__debug__" : Str)) = false ∧ (y == ("__classdict__" : Str)) = false) ∧
  ∃ f fd, mg p.1 = some (.ref f) ∧ Fun K p.1 p.2.qual p.2.st f fd ∧ FnScope p.2.N p.2.ps (defScope p.2.st) ∧ Binds K fd p.2.ps []
theorem fn_at (X : K.In h) (G : h.Ns mainGlobals mg) {x q : Str} {st : PySem.Stmt} {ps N : List Str} {f : Addr} {oc : Value} {od an : Option Addr} {osl : Array (Option Value)} {kV dc pm cd ct : Value} (hx : (x == ("__debug__" : Str)) = false)
    (hN : (N.all fun y => !(y == ("__debug__" : Str)) && !(y == ("__classdict__" : Str))) = true) (sc : FnScope N ps (defScope st))
    (hb : ∀ fd, Fun K x q st f fd → Binds K fd ps []) (a : PySem.W.nsIn K mainGlobals x = some (some (.ref f)))
    (l : K.lookup f = some ⟨oc, od, .func (PySem.W.fnOf x q (defArgs st) (defBody st) (defScope st) .none kV dc pm an cd ct), osl⟩)
    (c : PySem.W.codeIn K cd q = true) (k : PySem.W.keepIn K (.ref f) = true) : FnP K mg (x, ⟨q, st, ps, N⟩) :=
  ⟨hx, fun y hy => by
    have z := List.all_eq_true.mp hN y hy
    simpa using z, f, _, PySem.W.mg_of X G a, fun_mk l c k, sc, hb _ (fun_mk l c k)⟩
theorem funOk_mk {T : Tab} (H : AllP (FnP K mg) T.fns) : FunOk T K mg := ⟨fun _ _ e => H.at e⟩
/-- the classes' addresses -/
def GlA (K : PySem.W.Frag) (GL : List (Str × Addr)) : Prop := AllP (fun p => PySem.W.nsIn K mainGlobals p.1 = some (some (.ref p.2))) GL
theorem glA_mg (X : K.In h) (G : h.Ns mainGlobals mg) {GL : List (Str × Addr)} (H : GlA K GL) {x : Str} {a : Addr} (m : (x, a) ∈ GL) : mg x = some (.ref a) := PySem.W.mg_of X G (AllP.mem (p := fun p : Str × Addr => PySem.W.nsIn K mainGlobals p.1 = some (some (.ref p.2))) H m)
/-- names that the written part must not have -/
def bltB (K : PySem.W.Frag) (l : List Str) : Bool := l.all fun x => decide (PySem.W.nsIn K mainGlobals x = some none) && (!(x == ("__name__" : Str)) && !(x == ("__debug__" : Str)))
theorem bltB_at (X : K.In h) (G : h.Ns mainGlobals mg) {l : List Str} (H : bltB K l = true) {x : Str} (m : l.contains x = true) : mg x = none ∧ x ≠ "__name__" ∧ (x == ("__debug__" : Str)) = false := by
  have z := List.all_eq_true.mp H x (List.contains_iff_mem.mp m)
  obtain ⟨h1, z⟩ := Bool.and_eq_true_iff.mp z
  obtain ⟨h2, h3⟩ := Bool.and_eq_true_iff.mp z
  refine ⟨PySem.W.mg_none_of X G (of_decide_eq_true h1), fun e => ?_, by simpa using h3⟩
  subst e
  simp at h2
theorem glbOk_cls {T : Tab} {GL : List (Str × Addr)} (X : K.In h) (G : h.Ns mainGlobals mg) (A : GlA K GL) (e : T.glb = GL.map fun p => (p.1, D.glb p.1)) (hd : (GL.all fun p => !(p.1 == ("__debug__" : Str))) = true) (hb : bltB K T.blt = true) : GlbOk T K mg := by
  refine ⟨fun x d hl => ?_, fun x m => bltB_at X G hb m⟩
  rw [e] at hl
  obtain ⟨p, hp, ep⟩ := List.mem_map.mp (lookup_mem' hl)
  cases ep
  have hm := glA_mg X G A (x := p.1) (a := p.2) hp
  exact ⟨by simpa using List.all_eq_true.mp hd p hp, .ref p.2, .ref p.2, hm, rfl, fun ρ H => .glb hm⟩
/-- the questions that isinstance may ask of a class -/
def askL (GL : List (Str × Addr)) : List (D × Value) := GL.map (fun p => (D.glb p.1, Value.ref p.2)) ++ exTys.map fun n => (D.ty n, Value.type n)
def kitB (K : PySem.W.Frag) (C : Addr) (sup : List D) (GL : List (Str × Addr)) : Bool := (askL GL).all fun p => decide (PySem.W.kitOne K (.ref C) p.2 = some (sup.any (sameC p.1)))
theorem lookup_names {α β : Type} : ∀ {l : List (Str × α)} {m : List (Str × β)} {x : Str}, l.map (·.1) = m.map (·.1) → (l.lookup x).isSome = true → ∃ b, (x, b) ∈ m
  | [], _, _, _, h => by cases h
  | (y, a) :: l, [], _, e, _ => by cases e
  | (y, a) :: l, (z, b) :: m, x, e, h => by
    have e1 : y = z := (List.cons.inj e).1
    have e2 := (List.cons.inj e).2
    rw [List.lookup_cons] at h
    split at h
    · rename_i q
      exact ⟨b, by rw [eq_of_beq q, e1]; exact List.mem_cons_self⟩
    · obtain ⟨c, hc⟩ := lookup_names e2 h
      exact ⟨c, List.mem_cons_of_mem _ hc⟩
theorem kitB_at {T : Tab} {GL : List (Str × Addr)} (X : K.In h) (G : h.Ns mainGlobals mg) (A : GlA K GL) (en : T.excs.map (·.1) = GL.map (·.1)) {C : Addr} {sup : List D} (H : kitB K C sup GL = true) :
    ∀ c u, askC T c = true → ClsD mg c u → PySem.W.kitOne K (.ref C) u = some (sup.any (sameC c)) := by
  intro c u hc hu
  have key : ∀ p ∈ askL GL, PySem.W.kitOne K (.ref C) p.2 = some (sup.any (sameC p.1)) := fun p hp => of_decide_eq_true (List.all_eq_true.mp H p hp)
  cases c with
  | glb y =>
    obtain ⟨C', m, rfl⟩ := hu
    obtain ⟨b, hb⟩ := lookup_names en hc
    have := glA_mg X G A hb
    rw [m] at this
    cases this
    exact key (D.glb y, Value.ref C') (List.mem_append_left _ (List.mem_map.mpr ⟨(y, C'), hb, rfl⟩))
  | ty n =>
    obtain rfl : u = .type n := hu
    exact key (D.ty n, Value.type n) (List.mem_append_right _ (List.mem_map.mpr ⟨n, List.contains_iff_mem.mp hc, rfl⟩))
  | _ => cases hc
/-- what every own error class has -/
def excB (K : PySem.W.Frag) (C : Addr) : Bool := PySem.W.keepIn K (.ref C) && (xfB K C && (decide (PySem.W.findIn K (.ref C) "__class__" = some (some (.builtin "object.__class__"))) && (decide (PySem.W.specialIn K (.builtin "object.__class__") "__get__" = some (some (.builtin "getset_descriptor.__get__"))) && (decide (PySem.W.takesIn K (.builtin "object.__class__") = some true) && decide (PySem.W.mroIn K C (.type "object") = some true)))))
theorem excB_at {C : Addr} (H : excB K C = true) : PySem.W.keepIn K (.ref C) = true ∧ ExcC K C ∧ XfC K C := by
  obtain ⟨h1, H⟩ := Bool.and_eq_true_iff.mp H
  obtain ⟨h2, H⟩ := Bool.and_eq_true_iff.mp H
  obtain ⟨h3, H⟩ := Bool.and_eq_true_iff.mp H
  obtain ⟨h4, H⟩ := Bool.and_eq_true_iff.mp H
  obtain ⟨h5, h6⟩ := Bool.and_eq_true_iff.mp H
  have x := xfB_ok h2
  exact ⟨h1, ⟨x.ga, x.gg, x.exC, x.hdC, of_decide_eq_true h3, of_decide_eq_true h4, of_decide_eq_true h5, of_decide_eq_true h6⟩, x⟩
/-- what ExsOk asks of one class, its address given -/
def ExP (T : Tab) (P : Program) (K : PySem.W.Frag) (GL : List (Str × Addr)) (p : Str × Exc) (C : Addr) : Prop := (p.1 == ("__debug__" : Str)) = false ∧ excB K C = true ∧ kitB K C p.2.sup GL = true ∧
  (p.2.fld = none → ∃ B newId initId bmB, ExcBaseFacts B newId initId bmB ∧ PySem.W.excIn K C bmB newId = true) ∧ (∀ f, p.2.fld = some f → ExcV P K C f ∧ PySem.W.findIn K (.ref C) f = some none)
def ExA (T : Tab) (P : Program) (K : PySem.W.Frag) (GL : List (Str × Addr)) : List (Str × Exc) → List (Str × Addr) → Prop
  | [], [] => True
  | p :: l, q :: m => (p.1 = q.1 ∧ ExP T P K GL p q.2) ∧ ExA T P K GL l m
  | _, _ => False
theorem ExA.at {T : Tab} {P : Program} {GL : List (Str × Addr)} : ∀ {l : List (Str × Exc)} {m : List (Str × Addr)} {p : Str × Exc}, ExA T P K GL l m → p ∈ l → ∃ C, (p.1, C) ∈ m ∧ ExP T P K GL p C
  | a :: l, [], _, H, _ => H.elim
  | a :: l, q :: m, p, ⟨⟨e, x⟩, H⟩, hp => by
    rcases List.mem_cons.mp hp with rfl | hp
    · exact ⟨q.2, by rw [e]; exact List.mem_cons_self, x⟩
    · obtain ⟨C, h1, h2⟩ := ExA.at H hp
      exact ⟨C, List.mem_cons_of_mem _ h1, h2⟩
theorem exc0_at {T : Tab} {P : Program} {GL : List (Str × Addr)} {x : Str} {sup : List D} {C : Addr} {B newId initId : String} {bmB : List Value} (F : ExcBaseFacts B newId initId bmB) (hx : (x == ("__debug__" : Str)) = false) (hb : excB K C = true) (hk : kitB K C sup GL = true) (q : PySem.W.excIn K C bmB newId = true) : x = x ∧ ExP T P K GL (x, ⟨none, sup⟩) C :=
  ⟨rfl, hx, hb, hk, fun _ => ⟨B, newId, initId, bmB, F, q⟩, fun f e => by cases e⟩
theorem exc1_at {T : Tab} {P : Program} {GL : List (Str × Addr)} {x f : Str} {sup : List D} {C : Addr} (hx : (x == ("__debug__" : Str)) = false) (hb : excB K C = true) (hk : kitB K C sup GL = true) (nf : PySem.W.findIn K (.ref C) f = some none) (V : ExcV P K C f) : x = x ∧ ExP T P K GL (x, ⟨some f, sup⟩) C :=
  ⟨rfl, hx, hb, hk, fun e => (by cases e), fun f' e => (by cases e; exact ⟨V, nf⟩)⟩
theorem exsOk_mk {T : Tab} {P : Program} {GL : List (Str × Addr)} (X : K.In h) (G : h.Ns mainGlobals mg) (A : GlA K GL) (en : T.excs.map (·.1) = GL.map (·.1)) (sup : PySem.W.nsIn K mainGlobals "super" = some none) (E : ExA T P K GL T.excs GL) : ExsOk T P K mg := by
  refine ⟨PySem.W.mg_none_of X G sup, fun x e hl => ?_⟩
  obtain ⟨C, hC, hx, hb, hk, h0, h1⟩ := E.at (lookup_mem' hl)
  obtain ⟨kp, ec, xc⟩ := excB_at hb
  exact ⟨hx, C, glA_mg X G A hC, kp, ec, xc, h0, h1, kitB_at X G A en hk⟩
/-- the law's promise, from what its def computes -/
theorem law_imp {r : Sys} {x : Str} {n : Nat} (H : ∀ ns : List Int, ∃ st', r.call x [.fro (ns.map .int)] [] = .ok (.bl true) st') : ∀ vs Hp' Q E, spLaw K n vs Hp' Q E → spI K mg r x 1 vs Hp' Q E := by
  rintro vs H' Q E ⟨a, ns, rfl, hl, sq, hq⟩
  obtain ⟨st', e⟩ := H ns
  refine ⟨[], [], [.fro (ns.map .int)], ⟨rfl, List.nodup_nil, fun n a o e1 e2 => by cases e2⟩, .cons (.fro sq (RepL.ints ns)) .nil, rfl, ?_⟩
  rw [e]
  intro ρ' H2 s2 x2 v rv
  cases rv
  exact hq H2
/-- the end: the law's def, from the tables -/
theorem end_mk {T : Tab} {l : PySem.W.OpenLaw} {w : World} {n k : Nat} {fa : Addr} {F : Fn} (X : K.In h) (G : h.Ns mainGlobals mg) (hfa : mg "law" = some (.ref fa)) (gl : GlbOk T K mg) (fn : FunOk T K mg) (ex : ExsOk T l.prog K mg)
    (hF : T.fns.lookup ("law" : Str) = some F) (hps : F.ps = [("script" : Str)])
    (hB : ∀ (kV doc pm : Value) (an : Option Addr) (cdv ct : Value) (us : List Value), us.length = [("script" : Str)].length → bindArgs (PySem.W.fnOf "law" F.qual (defArgs F.st) (defBody F.st) (defScope F.st) .none kV doc pm an cdv ct) ⟨us, []⟩ = pure ([("script" : Str)].zip us))
    (H : ∀ ns : List Int, ∃ st', (run T k).call "law" [.fro (ns.map .int)] [] = .ok (.bl true) st') :
    ∃ fd : FuncData, (∀ (s : Shared) (v : Value), BindsTo s fd ⟨[v], []⟩ [("script", v)]) ∧ ∀ base : Heap, K.In base → base.Ns mainGlobals mg → FnG l.prog w K mg base (L2.CX l.prog w) k fa fd ["script"] (spLaw K n) := by
  obtain ⟨_, _, f, fd, hm, FF, sc, bd⟩ := fn.fns _ _ hF
  have e := hfa.symm.trans hm
  cases e
  refine ⟨fd, fun s v => ?_, fun base _ _ => ?_⟩
  · obtain ⟨oc, od, kV, doc, pm, an, cdv, ct, osl, rfl, lk, hcd⟩ := FF.ex
    exact .of_eq (hB kV doc pm an cdv ct [v] rfl)
  · have q := (sound T k).call l.prog w K mg base gl fn ex _ _ _ _ hF FF
    rw [hps] at q
    exact q.imp (law_imp H)
end
theorem excV_mk {P : Program} {K : PySem.W.Frag} {C : Addr} {f : Str} {B Bn newId inN i : String} {bmN bmB : List Value} {fI cc cda : Addr} {nm qual x : Str} {params : Arguments} {scope : Scope} {dV kV doc pm ct : Value} {an od : Option Addr} {oc : Value} {osl : Array (Option Value)} {p0 p1 p2 p3 p4 p5 p6 p7 p8 p9 : Pos} {ar : Arg}
    {ccl cl : Value} {cdd cld : Option Addr} {ccs csl : Array (Option Value)} {vs : Array Value} {file : Str} {tf : Tok}
    (XB : ExcB B Bn newId inN i bmN bmB) (iC : PySem.W.findIn K (.ref C) "__init__" = some (some (.ref fI)))
    (lk : K.lookup fI = some ⟨oc, od, .func (iFd nm qual params (iBody x f p0 p1 p2 p3 p4 p5 p6 p7 p8 p9) scope dV kV doc pm an cda ct cc), osl⟩)
    (cell : K.lookup cc = some ⟨cl, cld, .cell (some (.ref C)), csl⟩) (code : K.lookup cda = some ⟨ccl, cdd, .fields vs, ccs⟩) (v2 : vs[2]? = some (.str file tf)) (hfile : ((P.main.file : Str) == file) = true)
    (S : InitScope x scope) (har : (params.posonlyargs ++ params.args).head? = some ar) (hself : ar.arg = ("self" : Str)) (hev : SupEv x p0 p1 p2 p3 p4) (hne : (("self" : Str) == x) = false)
    (q : PySem.W.excInitIn K C bmB newId = true) (has : PySem.W.hasDictIn K C = true) (sa : PySem.W.findIn K (.ref C) "__setattr__" = some (some (.builtin "object.__setattr__"))) (ov : PySem.W.excOver K C bmB = true) (tk : PySem.W.takerIn K C f = some none)
    (sub : PySem.W.subIn K (.ref C) (.type B) = some true) (self : PySem.W.mroIn K C (.ref C) = some true) (sup : PySem.W.ks_superIn K C C "__init__" = some (some (.builtin i))) (tp : PySem.W.nsIn K cStatics "thirdparty.any" = some none) (top : (P.main.scope.names.lookup ("super" : Str)).isSome = false)
    (hcd : PySem.W.codeIn K (.ref cda) qual = true) (tI : PySem.W.typeIn K (.ref fI) = some (.type "function"))
    (hbind : ∀ (s : Shared) (a b : Value), BindsTo s (iFd nm qual params (iBody x f p0 p1 p2 p3 p4 p5 p6 p7 p8 p9) scope dV kV doc pm an cda ct cc) ⟨[a, b], []⟩ [(("self" : Str), a), (x, b)]) : ExcV P K C f :=
  ⟨B, Bn, newId, inN, i, bmN, bmB, fI, cc, cda, nm, qual, x, params, scope, dV, kV, doc, pm, ct, an, od, oc, osl, p0, p1, p2, p3, p4, p5, p6, p7, p8, p9, ar, XB, ⟨q, has, sa, ov, tk, sub, self, sup, tp, ⟨cl, cld, csl, cell⟩, ⟨ccl, cdd, vs, ccs, file, tf, code, v2, hfile⟩, top⟩, S, har, hself, hev, hne, lk, hcd, iC, tI, hbind⟩
end Nd
end

section
set_option Elab.async false
set_option linter.all false
set_option maxRecDepth 100000
/-! NdK: what code means, its names found: functions of the slots and of the store. -/
namespace Nd
open PySem
/-- an expression, a test, a statement -/
abbrev CE := Env → Store → R D
abbrev CT := Env → Store → R Bool
abbrev CS := Env → Store → R (Fl × Env)
def cV (i : Nat) : CE := fun env st => ret ((env[i]?).join) st
def cK (d : D) : CE := fun _ st => .ok d st
def cBin (op : Operator) (a b : CE) : CE := fun env st => (a env st).bind fun x st => (b env st).bind fun y st => lft (binop op x y st)
def cNot (a : CE) : CE := fun env st => (a env st).bind fun x st => ret ((truth st x).map fun b => .bl (!b)) st
def cNeg (a : CE) : CE := fun env st => (a env st).bind fun x st => ret (negD x) st
def cAnd (a b : CE) : CE := fun env st => (a env st).bind fun x st => match truth st x with
  | some true => b env st
  | some false => .ok x st
  | none => .bad
def cOr (a b : CE) : CE := fun env st => (a env st).bind fun x st => match truth st x with
  | some false => b env st
  | some true => .ok x st
  | none => .bad
def cIf (t : CT) (a b : CE) : CE := fun env st => (t env st).bind fun k st => if k then a env st else b env st
def cCmp (op : CmpOp) (a b : CE) : CE := fun env st => (a env st).bind fun x st => (b env st).bind fun y st => ret ((cmpop op x y st).map .bl) st
def cArgs : List CE → Env → Store → R (List D)
  | [], _, st => .ok [] st
  | e :: es, env, st => (e env st).bind fun d st => (cArgs es env st).bind fun ds st => .ok (d :: ds) st
def cCall (r : Sys) (f : Str) (k : Nat) (es : List CE) : CE := fun env st => (cArgs es env st).bind fun ds st => if ds.length = k then r.call f ds st else .bad
def cBlt (f : List D → Store → Option (D × Store)) (es : List CE) : CE := fun env st => (cArgs es env st).bind fun ds st => lft (f ds st)
def cExc0 (c : Str) (a : CE) : CE := fun env st => (a env st).bind fun _ st => .ok (.exc c []) st
def cExc1 (c f : Str) (a : CE) : CE := fun env st => (a env st).bind fun d st => .ok (.exc c [(f, d)]) st
def cLst (es : List CE) : CE := fun env st => (cArgs es env st).bind fun ds st => if ds.length ≤ sizeLine then lft (alloc (.lst ds) st) else .bad
def cTup (es : List CE) : CE := fun env st => (cArgs es env st).bind fun ds st => if ds.length ≤ sizeLine then .ok (.tup ds) st else .bad
def cIx (a b : CE) : CE := fun env st => (a env st).bind fun x st => (b env st).bind fun y st => ret (atD x y st) st
def cPart : Option CE → Env → Store → R (Option Int)
  | none, _, st => .ok none st
  | some e, env, st => (e env st).bind fun d st => match d with
    | .int i => .ok (some i) st
    | _ => .bad
def cSl (a : CE) (lo hi : Option CE) : CE := fun env st => (a env st).bind fun x st => (cPart lo env st).bind fun lo st => (cPart hi env st).bind fun hi st => lft (sliceD x lo hi st)
def cAttr (T : Tab) (a : CE) (f : Str) : CE := fun env st => (a env st).bind fun x st => ret (attrD T x f) st
def cPairs : List (CE × CE) → Env → Store → R (List (L2.Key × D))
  | [], _, st => .ok [] st
  | (k, v) :: r, env, st => (k env st).bind fun x st => (v env st).bind fun y st => match keyD x with
    | some q => (cPairs r env st).bind fun l st => .ok ((q, y) :: l) st
    | none => .bad
def cDct (l : List (CE × CE)) : CE := fun env st => (cPairs l env st).bind fun l st => lft (alloc (.dct (l.foldl (fun acc kv => putD acc kv.1 kv.2) [])) st)
def cDct0 : CE := fun _ st => lft (alloc (.dct []) st)
/-! what is walked, targets, comprehensions -/
def wOf (a : CE) : Env → Store → R Wk := fun env st => (a env st).bind fun d st => owk (walk st d) st
def wRng (es : List CE) : Env → Store → R Wk := fun env st => (cArgs es env st).bind fun ds st => owk (rngW ds) st
def tg1 (i : Nat) : D → Env → Option Env := fun d env => some (env.set i (some d))
def setIx : List Nat → List D → Env → Option Env
  | [], [], env => some env
  | i :: is, d :: ds, env => setIx is ds (env.set i (some d))
  | _, _, _ => none
def tgT (is : List Nat) : D → Env → Option Env := fun d env => match d with
  | .tup l => setIx is l env
  | _ => none
def cComp (w : Env → Store → R Wk) (tg : D → Env → Option Env) (ts : CT) (el : CE) (own : List Nat) : CE := fun env st =>
  ((w env st).bind fun w st => compW w tg ts el (wipeE env own) st).bind fun ds st => lft (alloc (.lst ds) st)
def tTrue : CT := fun _ st => .ok true st
/-! tests -/
def tNot (a : CT) : CT := fun env st => (a env st).bind fun k st => .ok (!k) st
def tAnd (a b : CT) : CT := fun env st => (a env st).bind fun k st => if k then b env st else .ok false st
def tOr (a b : CT) : CT := fun env st => (a env st).bind fun k st => if k then .ok true st else b env st
def tCmp (op : CmpOp) (a b : CE) : CT := fun env st => (a env st).bind fun x st => (b env st).bind fun y st => match cmpop op x y st with
  | some k => .ok k st
  | none => .bad
def tOf (a : CE) : CT := fun env st => (a env st).bind fun x st => match truth st x with
  | some k => .ok k st
  | none => .bad
/-! statements -/
def sAsg (i : Nat) (a : CE) : CS := fun env st => (a env st).bind fun d st => .ok (.nx, env.set i (some d)) st
def sPar (i j : Nat) (a b : CE) : CS := fun env st => (a env st).bind fun v st => (b env st).bind fun w st => .ok (.nx, (env.set i (some v)).set j (some w)) st
def sRet (a : CE) : CS := fun env st => (a env st).bind fun d st => .ok (.rt d, env) st
def sRet0 : CS := fun env st => .ok (.rt .non, env) st
def sExp (a : CE) : CS := fun env st => (a env st).bind fun _ st => .ok (.nx, env) st
def sPass : CS := fun env st => .ok (.nx, env) st
def sSub (o i e : CE) : CS := fun env st => (e env st).bind fun v st => (o env st).bind fun x st => (i env st).bind fun y st => match setItemD x y v st with
  | some st => .ok (.nx, env) st
  | none => .bad
def sB : List CS → CS
  | [], env, st => .ok (.nx, env) st
  | s :: ss, env, st => (s env st).bind fun fe st => match fe.1 with
    | .nx => sB ss fe.2 st
    | _ => .ok fe st
def sIf (t : CT) (a b : CS) : CS := fun env st => (t env st).bind fun k st => if k then a env st else b env st
def sFor (w : Env → Store → R Wk) (tg : D → Env → Option Env) (body : CS) : CS := fun env st => (w env st).bind fun w st => forW w tg body env st
/-- a def's body, called -/
def fnC (N : List Str) (k : Nat) (b : CS) : List D → Store → R D := fun ds st => if ds.length = k then (b (start N ds) st).bind fun fe st => match fe.1 with
    | .rt d => .ok d st
    | .nx => .ok .non st
    | _ => .bad
  else .bad
end Nd
end

section
set_option Elab.async false
set_option linter.all false
set_option maxRecDepth 100000
/-! NdL: steps of the meanings as rewriting rules. -/
namespace Nd
open PySem
section
variable {α β : Type} {env : Env} {st : Store} {d x y : D} {i j : Int}
@[simp] theorem bind_okE {a : α} {f : α → Store → R β} : (R.ok a st).bind f = f a st := rfl
@[simp] theorem ret_someE : Nd.ret (some d) st = .ok d st := rfl
@[simp] theorem lft_someE {p : D × Store} : lft (some p) = .ok p.1 p.2 := rfl
@[simp] theorem cV_E {k : Nat} : cV k env st = Nd.ret ((env[k]?).join) st := rfl
@[simp] theorem cK_E : cK d env st = .ok d st := rfl
@[simp] theorem cBin_E {op : Operator} {a b : CE} : cBin op a b env st = (a env st).bind fun x st => (b env st).bind fun y st => lft (binop op x y st) := rfl
@[simp] theorem cNot_E {a : CE} : cNot a env st = (a env st).bind fun x st => Nd.ret ((truth st x).map fun b => .bl (!b)) st := rfl
@[simp] theorem cNeg_E {a : CE} : cNeg a env st = (a env st).bind fun x st => Nd.ret (negD x) st := rfl
@[simp] theorem cIf_E {t : CT} {a b : CE} : cIf t a b env st = (t env st).bind fun k st => if k then a env st else b env st := rfl
@[simp] theorem cCmp_E {op : CmpOp} {a b : CE} : cCmp op a b env st = (a env st).bind fun x st => (b env st).bind fun y st => Nd.ret ((cmpop op x y st).map .bl) st := rfl
@[simp] theorem cArgs_nil : cArgs [] env st = .ok [] st := rfl
@[simp] theorem cArgs_cons {e : CE} {es : List CE} : cArgs (e :: es) env st = (e env st).bind fun d st => (cArgs es env st).bind fun ds st => .ok (d :: ds) st := rfl
@[simp] theorem cCall_E {r : Sys} {f : Str} {k : Nat} {es : List CE} : cCall r f k es env st = (cArgs es env st).bind fun ds st => if ds.length = k then r.call f ds st else .bad := rfl
@[simp] theorem cBlt_E {f : List D → Store → Option (D × Store)} {es : List CE} : cBlt f es env st = (cArgs es env st).bind fun ds st => lft (f ds st) := rfl
@[simp] theorem cExc0_E {c : Str} {a : CE} : cExc0 c a env st = (a env st).bind fun _ st => .ok (.exc c []) st := rfl
@[simp] theorem cExc1_E {c f : Str} {a : CE} : cExc1 c f a env st = (a env st).bind fun d st => .ok (.exc c [(f, d)]) st := rfl
@[simp] theorem cLst_E {es : List CE} : cLst es env st = (cArgs es env st).bind fun ds st => if ds.length ≤ sizeLine then lft (alloc (.lst ds) st) else .bad := rfl
@[simp] theorem cTup_E {es : List CE} : cTup es env st = (cArgs es env st).bind fun ds st => if ds.length ≤ sizeLine then .ok (.tup ds) st else .bad := rfl
@[simp] theorem cIx_E {a b : CE} : cIx a b env st = (a env st).bind fun x st => (b env st).bind fun y st => Nd.ret (atD x y st) st := rfl
@[simp] theorem cAttr_E {T : Tab} {a : CE} {f : Str} : cAttr T a f env st = (a env st).bind fun x st => Nd.ret (attrD T x f) st := rfl
@[simp] theorem cPart_none : cPart none env st = .ok none st := rfl
@[simp] theorem cPart_some {e : CE} : cPart (some e) env st = (e env st).bind fun d st => match d with | .int i => .ok (some i) st | _ => .bad := rfl
@[simp] theorem cSl_E {a : CE} {lo hi : Option CE} : cSl a lo hi env st = (a env st).bind fun x st => (cPart lo env st).bind fun lo st => (cPart hi env st).bind fun hi st => lft (sliceD x lo hi st) := rfl
@[simp] theorem cPairs_nil : cPairs [] env st = .ok [] st := rfl
@[simp] theorem cPairs_cons {k v : CE} {r : List (CE × CE)} : cPairs ((k, v) :: r) env st = (k env st).bind fun x st => (v env st).bind fun y st => match keyD x with
    | some q => (cPairs r env st).bind fun l st => .ok ((q, y) :: l) st
    | none => .bad := rfl
@[simp] theorem cDct_E {l : List (CE × CE)} : cDct l env st = (cPairs l env st).bind fun l st => lft (alloc (.dct (l.foldl (fun acc kv => putD acc kv.1 kv.2) [])) st) := rfl
@[simp] theorem tCmp_E {op : CmpOp} {a b : CE} : tCmp op a b env st = (a env st).bind fun x st => (b env st).bind fun y st => match cmpop op x y st with | some k => .ok k st | none => .bad := rfl
@[simp] theorem tOf_E {a : CE} : tOf a env st = (a env st).bind fun x st => match truth st x with | some k => .ok k st | none => .bad := rfl
@[simp] theorem tNot_E {a : CT} : tNot a env st = (a env st).bind fun k st => .ok (!k) st := rfl
@[simp] theorem tAnd_E {a b : CT} : tAnd a b env st = (a env st).bind fun k st => if k then b env st else .ok false st := rfl
@[simp] theorem tOr_E {a b : CT} : tOr a b env st = (a env st).bind fun k st => if k then .ok true st else b env st := rfl
@[simp] theorem tTrue_E : tTrue env st = .ok true st := rfl
@[simp] theorem sAsg_E {k : Nat} {a : CE} : sAsg k a env st = (a env st).bind fun d st => .ok (.nx, env.set k (some d)) st := rfl
@[simp] theorem sPar_E {k l : Nat} {a b : CE} : sPar k l a b env st = (a env st).bind fun v st => (b env st).bind fun w st => .ok (.nx, (env.set k (some v)).set l (some w)) st := rfl
@[simp] theorem sRet_E {a : CE} : sRet a env st = (a env st).bind fun d st => .ok (.rt d, env) st := rfl
@[simp] theorem sExp_E {a : CE} : sExp a env st = (a env st).bind fun _ st => .ok (.nx, env) st := rfl
@[simp] theorem sSub_E {o i e : CE} : sSub o i e env st = (e env st).bind fun v st => (o env st).bind fun x st => (i env st).bind fun y st => match setItemD x y v st with | some st => .ok (.nx, env) st | none => .bad := rfl
@[simp] theorem sB_nil : sB [] env st = .ok (.nx, env) st := rfl
@[simp] theorem sB_cons {s : CS} {ss : List CS} : sB (s :: ss) env st = (s env st).bind fun fe st => match fe.1 with | .nx => sB ss fe.2 st | _ => .ok fe st := rfl
@[simp] theorem sIf_E {t : CT} {a b : CS} : sIf t a b env st = (t env st).bind fun k st => if k then a env st else b env st := rfl
@[simp] theorem sFor_E {w : Env → Store → R Wk} {tg : D → Env → Option Env} {body : CS} : sFor w tg body env st = (w env st).bind fun w st => forW w tg body env st := rfl
@[simp] theorem wRng_E {es : List CE} : wRng es env st = (cArgs es env st).bind fun ds st => owk (rngW ds) st := rfl
@[simp] theorem wOf_E {a : CE} : wOf a env st = (a env st).bind fun d st => owk (walk st d) st := rfl
@[simp] theorem cComp_E {w : Env → Store → R Wk} {tg : D → Env → Option Env} {ts : CT} {el : CE} {own : List Nat} : cComp w tg ts el own env st = ((w env st).bind fun w st => compW w tg ts el (wipeE env own) st).bind fun ds st => lft (alloc (.lst ds) st) := rfl
@[simp] theorem fnC_E {N : List Str} {k : Nat} {b : CS} {ds : List D} : fnC N k b ds st = if ds.length = k then (b (Nd.start N ds) st).bind fun fe st => match fe.1 with | .rt d => .ok d st | .nx => .ok .non st | _ => .bad else .bad := rfl
theorem fnC_rt {N : List Str} {k : Nat} {b : CS} {ds : List D} {env' : Env} {st' : Store} (h : ds.length = k) (hb : b (Nd.start N ds) st = .ok (.rt d, env') st') : fnC N k b ds st = .ok d st' := by
  rw [fnC_E, if_pos h, hb]
  rfl
theorem sB_nx {s : CS} {ss : List CS} {env' : Env} {st' : Store} (h : s env st = .ok (.nx, env') st') : sB (s :: ss) env st = sB ss env' st' := by
  rw [sB_cons, h]
  rfl
theorem sB_rt {s : CS} {ss : List CS} {env' : Env} {st' : Store} (h : s env st = .ok (.rt d, env') st') : sB (s :: ss) env st = .ok (.rt d, env') st' := by
  rw [sB_cons, h]
  rfl
@[simp] theorem add_ints : binop .Add (.int i) (.int j) st = some (.int (i + j), st) := rfl
@[simp] theorem sub_ints : binop .Sub (.int i) (.int j) st = some (.int (i - j), st) := rfl
@[simp] theorem mul_ints : binop .Mult (.int i) (.int j) st = if mulOk i j then some (.int (i * j), st) else none := rfl
@[simp] theorem div_ints : binop .FloorDiv (.int i) (.int j) st = if 0 < j ∧ j < 1073741824 then some (.int (i / j), st) else none := rfl
@[simp] theorem mod_ints : binop .Mod (.int i) (.int j) st = if 0 < j then some (.int (i % j), st) else none := rfl
theorem pow_ints : binop .Pow (.int i) (.int j) st = if powOk i j then some (.int (i ^ j.toNat), st) else none := rfl
@[simp] theorem lt_ints : cmpop .Lt (.int i) (.int j) st = some (decide (i < j)) := rfl
@[simp] theorem le_ints : cmpop .LtE (.int i) (.int j) st = some (decide (i ≤ j)) := rfl
@[simp] theorem gt_ints : cmpop .Gt (.int i) (.int j) st = some (decide (j < i)) := rfl
@[simp] theorem ge_ints : cmpop .GtE (.int i) (.int j) st = some (decide (j ≤ i)) := rfl
@[simp] theorem at_ref {n : Nat} : atD (.ref n) (.int i) st = (listAt st n).bind fun l => L2.atI l i := rfl
@[simp] theorem at_fro {l : List D} : atD (.fro l) (.int i) st = L2.atI l i := rfl
@[simp] theorem at_tup {l : List D} : atD (.tup l) (.int i) st = L2.atI l i := rfl
@[simp] theorem intD_int : intD [.int i] st = some (.int i, st) := rfl
@[simp] theorem intD_bl {b : Bool} : intD [.bl b] st = some (.int (b2i b), st) := rfl
@[simp] theorem absD_int : absD [.int i] st = some (.int (if i < 0 then -i else i), st) := rfl
@[simp] theorem maxD_int : maxD [.int i, .int j] st = some (.int (if j > i then j else i), st) := rfl
@[simp] theorem minD_int : minD [.int i, .int j] st = some (.int (if j < i then j else i), st) := rfl
@[simp] theorem lenD_ref {n : Nat} : lenD [.ref n] st = (listAt st n).map fun l => (.int l.length, st) := rfl
@[simp] theorem lenD_fro {l : List D} : lenD [.fro l] st = some (.int l.length, st) := rfl
@[simp] theorem lenD_tup {l : List D} : lenD [.tup l] st = some (.int l.length, st) := rfl
@[simp] theorem setItem_ref {n : Nat} {v : D} : setItemD (.ref n) (.int i) v st = match st[n]? with | some (.lst l) => (match L2.ixN l.length i with | some j => some (st.set n (.lst (l.set j v))) | none => none) | _ => none := rfl
@[simp] theorem alloc_E {o : Ob} : alloc o st = some (.ref st.length, st ++ [o]) := rfl
@[simp] theorem owk_some {w : Wk} : owk (some w) st = .ok w st := rfl
theorem mulOk_l (h1 : -(2 ^ 64) < i) (h2 : i < 2 ^ 64) : mulOk i j = true := by
  unfold mulOk
  rw [decide_eq_true ⟨h1, h2⟩]
  rfl
theorem mulOk_r (h1 : -(2 ^ 64) < j) (h2 : j < 2 ^ 64) : mulOk i j = true := by
  unfold mulOk
  rw [decide_eq_true (p := -(2 ^ 64) < j ∧ j < 2 ^ 64) ⟨h1, h2⟩, Bool.or_true]
theorem mulOk_mod {m : Int} (h0 : 0 < m) (h1 : m ≤ 2 ^ 64) : mulOk (i % m) j = true :=
  mulOk_l (by have := Int.emod_nonneg i (show m ≠ 0 by omega); omega) (by have := Int.emod_lt_of_pos i h0; omega)
/-- 10 ** 60, its twelfth power, 10 ** 18 -/
def G1 : Int := 10 ^ 60
def G2 : Int := G1 ^ 12
def G3 : Int := 10 ^ 18
theorem G2_pos : 0 < G2 := Int.pow_pos (Int.pow_pos (by decide))
@[simp] theorem pow_G1 : binop .Pow (.int 10) (.int 60) st = some (.int G1, st) := by rw [pow_ints, if_pos (by decide +kernel)]; rfl
@[simp] theorem pow_G2 : binop .Pow (.int G1) (.int 12) st = some (.int G2, st) := by rw [pow_ints, if_pos (by decide +kernel)]; rfl
@[simp] theorem pow_18 : binop .Pow (.int 10) (.int 18) st = some (.int G3, st) := by rw [pow_ints, if_pos (by decide +kernel)]; rfl
theorem atI0 {α : Type} {a : α} {l : List α} : L2.atI (a :: l) 0 = some a := by
  unfold L2.atI L2.ixN
  rw [if_pos (by omega), if_pos (by rw [List.length_cons]; omega)]
  rfl
theorem atI_nat {α : Type} {l : List α} {n : Nat} {i : Int} (h : i = (n : Int)) (hn : n < l.length) : L2.atI l i = l[n]? := by
  unfold L2.atI L2.ixN
  rw [if_pos (by omega), if_pos (by omega)]
  show l[i.toNat]? = _
  rw [show i.toNat = n by omega]
theorem ixN_nat {n : Nat} {i : Int} {k : Nat} (h : i = (k : Int)) (hn : k < n) : L2.ixN n i = some k := by
  unfold L2.ixN
  rw [if_pos (by omega), if_pos (by omega)]
  rw [show i.toNat = k by omega]

/-! ### the store grows -/
@[simp] theorem listAt_app0 {l : List Ob} : listAt (st ++ l) st.length = listAt l 0 := by
  unfold listAt
  rw [List.getElem?_append_right (Nat.le_refl _), Nat.sub_self]
@[simp] theorem listAt_app {l : List Ob} {k : Nat} : listAt (st ++ l) (st.length + k) = listAt l k := by
  unfold listAt
  rw [List.getElem?_append_right (Nat.le_add_right _ _), Nat.add_sub_cancel_left]
theorem listAt_old {l : List Ob} {k : Nat} {xs : List D} (h : listAt st k = some xs) : listAt (st ++ l) k = some xs := by
  unfold listAt at h ⊢
  split at h
  · rename_i e
    rw [List.getElem?_append_left (List.getElem?_eq_some_iff.mp e).1, e]
    exact h
  · cases h
@[simp] theorem listAt_0 {l : List D} {r : List Ob} : listAt (.lst l :: r) 0 = some l := rfl
@[simp] theorem listAt_1 {o : Ob} {l : List D} {r : List Ob} : listAt (o :: .lst l :: r) 1 = some l := rfl
theorem listAt_cons {o : Ob} {r : List Ob} {k : Nat} : listAt (o :: r) (k + 1) = listAt r k := rfl
@[simp] theorem add_refs {n m : Nat} : binop .Add (.ref n) (.ref m) st = match listAt st n, listAt st m with
    | some a, some b => if a.length + b.length ≤ sizeLine then alloc (.lst (a ++ b)) st else none
    | _, _ => none := rfl

/-! ### equal data -/
theorem optAll_map {α β γ : Type} {f : β → Option γ} {g : α → β} {h : α → γ} (e : ∀ a, f (g a) = some (h a)) : ∀ l : List α, optAll f (l.map g) = some (l.map h)
  | [] => rfl
  | a :: l => by
    rw [List.map_cons, List.map_cons]
    unfold optAll
    rw [e, optAll_map e l]
theorem dat_lst {k m : Nat} {l : List D} (h : listAt st m = some l) : dat st (k + 1) (.ref m) = (optAll (dat st k) l).map PyData.list := by
  show (match listAt st m with | some l => (optAll (dat st k) l).map PyData.list | none => none) = _
  rw [h]
theorem dat_bls {m : Nat} {bs : List Bool} (h : listAt st m = some (bs.map D.bl)) : dat st 60 (.ref m) = some (.list (bs.map PyData.bool)) := by
  rw [dat_lst h, optAll_map (f := dat st 59) (g := D.bl) (h := PyData.bool) fun _ => rfl]
  rfl
theorem eqv_bls : ∀ bs cs : List Bool, PyData.eqvAll (bs.map PyData.bool) (cs.map PyData.bool) = decide (bs = cs)
  | [], [] => by simp [PyData.eqvAll]
  | [], _ :: _ => by simp [PyData.eqvAll]
  | _ :: _, [] => by simp [PyData.eqvAll]
  | b :: bs, c :: cs => by
    simp only [List.map_cons, PyData.eqvAll, PyData.eqv, eqv_bls bs cs]
    by_cases h1 : b = c <;> by_cases h2 : bs = cs <;> simp [h1, h2]
theorem lay_bls : ∀ bs : List Bool, PyData.canLayAll0 (bs.map PyData.bool) = true
  | [] => by simp [PyData.canLayAll0]
  | b :: bs => by simp [PyData.canLayAll0, PyData.canLay0, lay_bls bs]
theorem dep_bls : ∀ bs : List Bool, PyData.depthAll (bs.map PyData.bool) ≤ 1
  | [] => by simp [PyData.depthAll]
  | b :: bs => by
    have := dep_bls bs
    simp only [List.map_cons, PyData.depthAll, PyData.depth]
    omega
theorem shp_bls (bs : List Bool) : SeqAt.shaped (.list (bs.map PyData.bool)) = true := by
  have := dep_bls bs
  unfold SeqAt.shaped
  simp only [PyData.canLay0, lay_bls, Bool.true_and, decide_eq_true_eq]
  have e : (PyData.list (bs.map PyData.bool)).depth = PyData.depthAll (bs.map PyData.bool) + 1 := by simp only [PyData.depth]
  rw [e]
  omega
theorem eq_bls {m n : Nat} {bs cs : List Bool} (h1 : listAt st m = some (bs.map D.bl)) (h2 : listAt st n = some (cs.map D.bl)) : cmpop .NotEq (.ref m) (.ref n) st = some (!decide (bs = cs)) := by
  show (eqG st (.ref m) (.ref n)).map (!·) = _
  unfold eqG
  rw [dat_bls h1, dat_bls h2]
  simp only [shp_bls, Bool.and_self, if_true, PyData.eqv, eqv_bls, Option.map_some]
@[simp] theorem eq_ints : cmpop .Eq (.int i) (.int j) st = some (decide (i = j)) := by
  show eqG st (.int i) (.int j) = _
  have e : ∀ z : Int, dat st 60 (.int z) = some (.int z) := fun _ => rfl
  unfold eqG
  rw [e, e]
  have sh : ∀ z : Int, SeqAt.shaped (.int z) = true := fun z => by unfold SeqAt.shaped; simp [PyData.canLay0, PyData.depth]
  simp only [sh, Bool.and_self, if_true, PyData.eqv]
  congr 1
@[simp] theorem ne_strs {x y : Str} : cmpop .NotEq (.str x) (.str y) st = some (!decide (x = y)) := rfl
@[simp] theorem eq_strs {x y : Str} : cmpop .Eq (.str x) (.str y) st = some (decide (x = y)) := rfl
/-! ### loops -/
theorem forItems_inv {tg : D → Env → Option Env} {body : Env → Store → R (Fl × Env)} {P : Env → Store → Prop} : ∀ (l : List D), (∀ d ∈ l, ∀ env st, P env st → ∃ env1, tg d env = some env1 ∧ ∃ env2 st2, body env1 st = .ok (.nx, env2) st2 ∧ P env2 st2) →
    ∀ env st, P env st → ∃ env' st', forItems tg body l env st = .ok (.nx, env') st' ∧ P env' st'
  | [], _, env, st, h => ⟨env, st, rfl, h⟩
  | d :: l, hb, env, st, h => by
    obtain ⟨env1, e1, env2, st2, e2, h2⟩ := hb d List.mem_cons_self env st h
    obtain ⟨env', st', e3, h3⟩ := forItems_inv l (fun x hx => hb x (List.mem_cons_of_mem _ hx)) env2 st2 h2
    refine ⟨env', st', ?_, h3⟩
    unfold forItems
    rw [e1]
    dsimp only
    rw [e2]
    exact e3
theorem compItems_map {tg : D → Env → Option Env} {tst : Env → Store → R Bool} {el : Env → Store → R D} {f : D → D} : ∀ (l : List D), (∀ d ∈ l, ∃ env1, tg d env = some env1 ∧ tst env1 st = .ok true st ∧ el env1 st = .ok (f d) st) → compItems tg tst el l env st = .ok (l.map f) st
  | [], _ => rfl
  | d :: l, h => by
    obtain ⟨env1, e1, e2, e3⟩ := h d List.mem_cons_self
    unfold compItems
    rw [e1]
    dsimp only
    rw [e2]
    show (noErr (el env1 st)).bind _ = _
    rw [e3]
    show (compItems tg tst el l env st).bind _ = _
    rw [compItems_map l fun x hx => h x (List.mem_cons_of_mem _ hx)]
    rfl
/-! ### errors asked for their classes -/
def isaT (T : Tab) (x : Str) (c : D) : Bool := match T.excs.lookup x with
  | some e => e.sup.any (sameC c)
  | none => false
theorem isa_exc {T : Tab} {x : Str} {fs : List (Str × D)} {c : D} (h1 : (T.excs.lookup x).isSome = true) (h2 : askC T c = true) : isaD T [.exc x fs, c] st = some (.bl (isaT T x c), st) := by
  show (isa1 T st (.exc x fs) c).map (fun b => (D.bl b, st)) = _
  unfold isa1 isaT
  cases h : T.excs.lookup x with
  | none => rw [h] at h1; cases h1
  | some e =>
    simp [h, h2]
theorem rngW_1 : rngW [.int i] = if rngOk i then some (.items (rngL 0 i.toNat)) else none := rfl
theorem comp_rng (k : Nat) (hk : k ≤ 100) (s : Nat) (el : CE) (f : Nat → Bool) (h : ∀ a : Nat, a < k → el ((wipeE env [s]).set s (some (.int (a : Int)))) st = .ok (.bl (f a)) st) :
    cComp (wRng [cK (.int k)]) (tg1 s) tTrue el [s] env st = .ok (.ref st.length) (st ++ [.lst (((List.range k).map f).map D.bl)]) := by
  have h1 : rngOk (k : Int) = true := by
    unfold rngOk
    rw [decide_eq_true (by omega), decide_eq_true (by omega)]
    rfl
  have h2 : rngW [.int (k : Int)] = some (.items (rngL 0 k)) := by
    rw [rngW_1, if_pos h1, Int.toNat_natCast]
  have h3 : (rngL 0 k).length ≤ sizeLine := by
    rw [sizeLine_eq]
    unfold rngL
    simp
    omega
  have h4 : compItems (tg1 s) tTrue el (rngL 0 k) (wipeE env [s]) st = R.ok ((rngL 0 k).map fun d => match d with | .int a => .bl (f a.toNat) | d => d) st := by
    refine compItems_map _ fun d hd => ?_
    unfold rngL at hd
    obtain ⟨a, ha, rfl⟩ := List.mem_map.mp hd
    refine ⟨(wipeE env [s]).set s (some (.int (0 + (a : Int)))), rfl, rfl, ?_⟩
    rw [Int.zero_add]
    exact h a (by simpa using ha)
  have h6 : compW (.items (rngL 0 k)) (tg1 s) tTrue el (wipeE env [s]) st = R.ok ((rngL 0 k).map fun d => match d with | .int a => .bl (f a.toNat) | d => d) st := (if_pos h3).trans h4
  have h5 : ((rngL 0 k).map fun d => match d with | .int a => D.bl (f a.toNat) | d => d) = ((List.range k).map f).map D.bl := by
    unfold rngL
    rw [List.map_map, List.map_map]
    refine List.map_congr_left fun a _ => ?_
    simp
  have h7 : wRng [cK (.int k)] env st = R.ok (.items (rngL 0 k)) st := by
    rw [wRng_E, cArgs_cons, cK_E, bind_okE, cArgs_nil, bind_okE, bind_okE, h2, owk_some]
  rw [cComp_E, h7, bind_okE, h6, bind_okE, h5, alloc_E, lft_someE]
theorem eq_bls' {m n : Nat} {bs cs : List Bool} (h1 : listAt st m = some (bs.map D.bl)) (h2 : listAt st n = some (cs.map D.bl)) : cmpop .Eq (.ref m) (.ref n) st = some (decide (bs = cs)) := by
  show eqG st (.ref m) (.ref n) = _
  unfold eqG
  rw [dat_bls h1, dat_bls h2]
  simp only [shp_bls, Bool.and_self, if_true, PyData.eqv, eqv_bls]
theorem cmp_alike {a b : CE} {st1 st2 : Store} {x y : Nat} {bs : List Bool} (h1 : a env st = .ok (.ref x) st1) (h2 : b env st1 = .ok (.ref y) st2) (l1 : listAt st2 x = some (bs.map D.bl)) (l2 : listAt st2 y = some (bs.map D.bl)) : cCmp .Eq a b env st = .ok (.bl true) st2 := by
  rw [cCmp_E, h1, bind_okE, h2, bind_okE, eq_bls' l1 l2]
  simp
theorem mul_ref {n : Nat} {l : List D} {k : Nat} (h : listAt st n = some l) (hk : k < 1000) (hz : l.length * k ≤ 1000) : binop .Mult (.ref n) (.int (k : Int)) st = some (.ref st.length, st ++ [.lst (List.replicate k l).flatten]) := by
  have hs := sizeLine_eq
  show (match listAt st n with | some a => if 0 ≤ (k : Int) ∧ (k : Int) < 2 ^ 62 ∧ a.length * (k : Int).toNat ≤ sizeLine then alloc (.lst (List.replicate (k : Int).toNat a).flatten) st else none | none => none) = _
  rw [h]
  dsimp only
  rw [if_pos ⟨by omega, by omega, by rw [Int.toNat_natCast]; omega⟩, Int.toNat_natCast, alloc_E]
theorem sl_ref {n : Nat} {l : List D} {lo hi : Option Int} (h : listAt st n = some l) : sliceD (.ref n) lo hi st = some (.ref st.length, st ++ [.lst (cutD l lo hi)]) := by
  show (match listAt st n with | some l => alloc (.lst (cutD l lo hi)) st | none => none) = _
  rw [h]
  rfl
theorem cAnd_true {a b : CE} {st1 : Store} (h : a env st = .ok (.bl true) st1) : cAnd a b env st = b env st1 := by
  show (a env st).bind _ = _
  rw [h]
  rfl
theorem attr_exc {T : Tab} {c f : Str} (h : (T.excs.lookup c).bind (·.fld) = some f) : attrD T (.exc c [(f, d)]) f = some d := by
  show (match T.excs.lookup c with | some e => if e.fld = some f then [(f, d)].lookup f else none | none => none) = _
  cases hl : T.excs.lookup c with
  | none => rw [hl] at h; cases h
  | some e =>
    rw [hl] at h
    have h' : e.fld = some f := h
    simp [h', List.lookup]
theorem dat_ints {m : Nat} {zs : List Int} (h : listAt st m = some (zs.map D.int)) : dat st 60 (.ref m) = some (.list (zs.map PyData.int)) := by
  rw [dat_lst h, optAll_map (f := dat st 59) (g := D.int) (h := PyData.int) fun _ => rfl]
  rfl
theorem lay_ints : ∀ zs : List Int, PyData.canLayAll0 (zs.map PyData.int) = true
  | [] => by simp [PyData.canLayAll0]
  | b :: bs => by simp [PyData.canLayAll0, PyData.canLay0, lay_ints bs]
theorem dep_ints : ∀ zs : List Int, PyData.depthAll (zs.map PyData.int) ≤ 1
  | [] => by simp [PyData.depthAll]
  | b :: bs => by
    have := dep_ints bs
    simp only [List.map_cons, PyData.depthAll, PyData.depth]
    omega
theorem shp_ints (zs : List Int) : SeqAt.shaped (.list (zs.map PyData.int)) = true := by
  have := dep_ints zs
  unfold SeqAt.shaped
  simp only [PyData.canLay0, lay_ints, Bool.true_and, decide_eq_true_eq]
  have e : (PyData.list (zs.map PyData.int)).depth = PyData.depthAll (zs.map PyData.int) + 1 := by simp only [PyData.depth]
  rw [e]
  omega
theorem any_ints : ∀ zs : List Int, anyD (.int i) (zs.map PyData.int) = decide (i ∈ zs)
  | [] => by simp [anyD]
  | z :: zs => by
    have ih := any_ints zs
    unfold anyD at ih ⊢
    rw [List.map_cons, List.any_cons, ih]
    simp only [PyData.eqv]
    by_cases h1 : z = i
    · subst h1
      simp
    · have h2 : ¬ i = z := fun e => h1 e.symm
      simp [h1, h2]
theorem in_ints {m : Nat} {zs : List Int} (h : listAt st m = some (zs.map D.int)) : cmpop .In (.int i) (.ref m) st = some (decide (i ∈ zs)) := by
  show (match dat st 60 (.int i), dat st 60 (.ref m) with
    | some a, some (.list b) => if SeqAt.shaped a && SeqAt.shaped (.list b) then some (anyD a b) else none
    | some a, some (.tuple b) => if SeqAt.shaped a && SeqAt.shaped (.list b) then some (anyD a b) else none
    | _, _ => none) = _
  rw [dat_ints h]
  have e : dat st 60 (.int i) = some (.int i) := rfl
  have sh : SeqAt.shaped (.int i) = true := by unfold SeqAt.shaped; simp [PyData.canLay0, PyData.depth]
  rw [e]
  simp only [sh, shp_ints, Bool.and_self, if_true, any_ints]
end
end Nd
end

section
set_option Elab.async false
set_option linter.all false
set_option maxRecDepth 100000
set_option maxHeartbeats 4000000
namespace K00
open PySem Nd
/-- the top's statements -/
def top (i : Nat) : PySem.Stmt := PySem.Challenge.pw_needrows_k00_errors.main.body.getD i (.Pass ⟨0, 0, 0, 0⟩)
def fnT : List (Str × Fn) := [("_law_dice", ⟨"_law_dice", top 19, ["script", "at"], ["script", "at", "cell", "great", "mixed"]⟩),
  ("_law_pull", ⟨"_law_pull", top 20, ["dice", "total"], ["dice", "total", "found", "one", "two"]⟩),
  ("_law_pick", ⟨"_law_pick", top 21, ["dice", "items"], ["dice", "items"]⟩),
  ("_law_value", ⟨"_law_value", top 22, ["dice"], ["dice", "number", "found"]⟩),
  ("_law_classes", ⟨"_law_classes", top 23, ["error"], ["error", "found"]⟩),
  ("_law_bases", ⟨"_law_bases", top 24, ["error"], ["error", "found"]⟩),
  ("_law_messages_right", ⟨"_law_messages_right", top 25, ["text"], ["text", "made", "at", "place"]⟩),
  ("_law_values_right", ⟨"_law_values_right", top 26, ["kept", "word", "number", "limit"], ["kept", "word", "number", "limit", "made", "told", "due", "at", "place"]⟩),
  ("law", ⟨"law", top 27, ["script"], ["script", "at", "dice", "word", "kept", "name"]⟩)]
def glT : List (Str × D) := [("RowsError", .glb "RowsError"), ("InvalidName", .glb "InvalidName"), ("InvalidCondition", .glb "InvalidCondition"), ("InvalidQuestion", .glb "InvalidQuestion"), ("InvalidRow", .glb "InvalidRow"), ("InvalidLog", .glb "InvalidLog"), ("InvalidKind", .glb "InvalidKind"), ("InvalidRest", .glb "InvalidRest"), ("InvalidState", .glb "InvalidState"), ("InvalidMark", .glb "InvalidMark"), ("InvalidOperation", .glb "InvalidOperation"), ("ParseError", .glb "ParseError"), ("InvalidCommand", .glb "InvalidCommand"), ("InvalidNumber", .glb "InvalidNumber"), ("UnknownName", .glb "UnknownName"), ("TooMany", .glb "TooMany"), ("NothingToUndo", .glb "NothingToUndo")]
def exT : List (Str × Exc) := [("RowsError", ⟨none, [(.glb "RowsError"), (.ty "ValueError"), (.ty "Exception"), (.ty "BaseException"), (.ty "object")]⟩),
  ("InvalidName", ⟨none, [(.glb "InvalidName"), (.glb "RowsError"), (.ty "ValueError"), (.ty "Exception"), (.ty "BaseException"), (.ty "object")]⟩),
  ("InvalidCondition", ⟨none, [(.glb "InvalidCondition"), (.glb "RowsError"), (.ty "ValueError"), (.ty "Exception"), (.ty "BaseException"), (.ty "object")]⟩),
  ("InvalidQuestion", ⟨none, [(.glb "InvalidQuestion"), (.glb "RowsError"), (.ty "ValueError"), (.ty "Exception"), (.ty "BaseException"), (.ty "object")]⟩),
  ("InvalidRow", ⟨none, [(.glb "InvalidRow"), (.glb "RowsError"), (.ty "ValueError"), (.ty "Exception"), (.ty "BaseException"), (.ty "object")]⟩),
  ("InvalidLog", ⟨none, [(.glb "InvalidLog"), (.glb "RowsError"), (.ty "ValueError"), (.ty "Exception"), (.ty "BaseException"), (.ty "object")]⟩),
  ("InvalidKind", ⟨none, [(.glb "InvalidKind"), (.glb "RowsError"), (.ty "ValueError"), (.ty "Exception"), (.ty "BaseException"), (.ty "object")]⟩),
  ("InvalidRest", ⟨none, [(.glb "InvalidRest"), (.glb "RowsError"), (.ty "ValueError"), (.ty "Exception"), (.ty "BaseException"), (.ty "object")]⟩),
  ("InvalidState", ⟨none, [(.glb "InvalidState"), (.glb "RowsError"), (.ty "ValueError"), (.ty "Exception"), (.ty "BaseException"), (.ty "object")]⟩),
  ("InvalidMark", ⟨none, [(.glb "InvalidMark"), (.glb "RowsError"), (.ty "ValueError"), (.ty "Exception"), (.ty "BaseException"), (.ty "object")]⟩),
  ("InvalidOperation", ⟨none, [(.glb "InvalidOperation"), (.glb "RowsError"), (.ty "ValueError"), (.ty "Exception"), (.ty "BaseException"), (.ty "object")]⟩),
  ("ParseError", ⟨none, [(.glb "ParseError"), (.glb "RowsError"), (.ty "ValueError"), (.ty "Exception"), (.ty "BaseException"), (.ty "object")]⟩),
  ("InvalidCommand", ⟨none, [(.glb "InvalidCommand"), (.glb "RowsError"), (.ty "ValueError"), (.ty "Exception"), (.ty "BaseException"), (.ty "object")]⟩),
  ("InvalidNumber", ⟨some "value", [(.glb "InvalidNumber"), (.ty "IndexError"), (.ty "LookupError"), (.ty "Exception"), (.ty "BaseException"), (.ty "object")]⟩),
  ("UnknownName", ⟨some "name", [(.glb "UnknownName"), (.ty "KeyError"), (.ty "LookupError"), (.ty "Exception"), (.ty "BaseException"), (.ty "object")]⟩),
  ("TooMany", ⟨some "limit", [(.glb "TooMany"), (.ty "OverflowError"), (.ty "ArithmeticError"), (.ty "Exception"), (.ty "BaseException"), (.ty "object")]⟩),
  ("NothingToUndo", ⟨some "many", [(.glb "NothingToUndo"), (.ty "LookupError"), (.ty "Exception"), (.ty "BaseException"), (.ty "object")]⟩)]
def blT : List Str := ["ArithmeticError", "IndexError", "KeyError", "LookupError", "OverflowError", "ValueError", "abs", "int", "isinstance", "len", "max", "min", "range", "repr"]
def T : Tab := ⟨fnT, glT, blT, exT⟩
def askT : List D := [.glb "RowsError", .glb "InvalidName", .glb "InvalidCondition", .glb "InvalidQuestion", .glb "InvalidRow", .glb "InvalidLog", .glb "InvalidKind", .glb "InvalidRest", .glb "InvalidState", .glb "InvalidMark", .glb "InvalidOperation", .glb "ParseError", .glb "InvalidCommand", .glb "InvalidNumber", .glb "UnknownName", .glb "TooMany", .glb "NothingToUndo", .ty "ArithmeticError", .ty "IndexError", .ty "KeyError", .ty "LookupError", .ty "OverflowError", .ty "ValueError"]
@[simp] theorem ask_0 : askC T (.glb "RowsError") = true := by decide +kernel
@[simp] theorem ask_1 : askC T (.glb "InvalidName") = true := by decide +kernel
@[simp] theorem ask_2 : askC T (.glb "InvalidCondition") = true := by decide +kernel
@[simp] theorem ask_3 : askC T (.glb "InvalidQuestion") = true := by decide +kernel
@[simp] theorem ask_4 : askC T (.glb "InvalidRow") = true := by decide +kernel
@[simp] theorem ask_5 : askC T (.glb "InvalidLog") = true := by decide +kernel
@[simp] theorem ask_6 : askC T (.glb "InvalidKind") = true := by decide +kernel
@[simp] theorem ask_7 : askC T (.glb "InvalidRest") = true := by decide +kernel
@[simp] theorem ask_8 : askC T (.glb "InvalidState") = true := by decide +kernel
@[simp] theorem ask_9 : askC T (.glb "InvalidMark") = true := by decide +kernel
@[simp] theorem ask_10 : askC T (.glb "InvalidOperation") = true := by decide +kernel
@[simp] theorem ask_11 : askC T (.glb "ParseError") = true := by decide +kernel
@[simp] theorem ask_12 : askC T (.glb "InvalidCommand") = true := by decide +kernel
@[simp] theorem ask_13 : askC T (.glb "InvalidNumber") = true := by decide +kernel
@[simp] theorem ask_14 : askC T (.glb "UnknownName") = true := by decide +kernel
@[simp] theorem ask_15 : askC T (.glb "TooMany") = true := by decide +kernel
@[simp] theorem ask_16 : askC T (.glb "NothingToUndo") = true := by decide +kernel
@[simp] theorem ask_17 : askC T (.ty "ArithmeticError") = true := by decide +kernel
@[simp] theorem ask_18 : askC T (.ty "IndexError") = true := by decide +kernel
@[simp] theorem ask_19 : askC T (.ty "KeyError") = true := by decide +kernel
@[simp] theorem ask_20 : askC T (.ty "LookupError") = true := by decide +kernel
@[simp] theorem ask_21 : askC T (.ty "OverflowError") = true := by decide +kernel
@[simp] theorem ask_22 : askC T (.ty "ValueError") = true := by decide +kernel
def s_law_dice_0 (n : Nat) : CS := sAsg 2 (cBin .Add (cBin .Mult (cK (.int 17)) (cV 1)) (cK (.int 8)))
def s_law_dice_1 (n : Nat) : CS := sIf (tCmp .Lt (cV 1) (cBlt lenD [cV 0])) (sB [sAsg 2 (cIx (cV 0) (cV 1))]) (sB [])
def s_law_dice_2 (n : Nat) : CS := sAsg 3 (cBin .Mod (cBlt intD [cBlt absD [cV 2]]) (cBin .Pow (cBin .Pow (cK (.int 10)) (cK (.int 60))) (cK (.int 12))))
def s_law_dice_3 (n : Nat) : CS := sAsg 4 (cBin .Add (cBin .Add (cBin .Add (cBin .Mult (cBin .Mod (cBlt intD [cV 3]) (cK (.int 2147483477))) (cK (.int 45989))) (cBin .Mult (cK (.int 1013)) (cV 1))) (cBin .Mult (cK (.int 7)) (cBlt intD [cCmp .Lt (cV 2) (cK (.int 0))]))) (cK (.int 31)))
def s_law_dice_4 (n : Nat) : CS := sRet (cLst [cBlt maxD [cK (.int 0), cBin .Sub (cV 3) (cBin .Pow (cK (.int 10)) (cK (.int 18)))], cBin .Mod (cBlt intD [cV 4]) (cK (.int 2147483423)), cK (.int 0)])
def c_law_dice (n : Nat) : List D → Store → R D := fnC ["script", "at", "cell", "great", "mixed"] 2 (sB [s_law_dice_0 n, s_law_dice_1 n, s_law_dice_2 n, s_law_dice_3 n, s_law_dice_4 n])
theorem e_law_dice (n : Nat) : (run T (n + 9)).call "_law_dice" = c_law_dice n := by kernel_rfl
def s_law_pull_0 (n : Nat) : CS := sIf (tCmp .Gt (cIx (cV 0) (cK (.int 0))) (cK (.int 0))) (sB [sAsg 2 (cBin .Mod (cBlt intD [cIx (cV 0) (cK (.int 0))]) (cV 1)), sSub (cV 0) (cK (.int 0)) (cBin .FloorDiv (cIx (cV 0) (cK (.int 0))) (cV 1)), sRet (cV 2)]) (sB [])
def s_law_pull_1 (n : Nat) : CS := sSub (cV 0) (cK (.int 2)) (cBin .Add (cIx (cV 0) (cK (.int 2))) (cK (.int 1)))
def s_law_pull_2 (n : Nat) : CS := sAsg 3 (cBin .Mod (cBlt intD [cBin .Add (cIx (cV 0) (cK (.int 1))) (cBin .Mult (cK (.int 1000151)) (cIx (cV 0) (cK (.int 2))))]) (cK (.int 2305843009213693951)))
def s_law_pull_3 (n : Nat) : CS := sAsg 4 (cBin .Mult (cBin .Mod (cBlt intD [cBin .Mult (cV 3) (cV 3)]) (cK (.int 2305843009213693907))) (cV 3))
def s_law_pull_4 (n : Nat) : CS := sRet (cBin .Mod (cBlt intD [cBin .FloorDiv (cBin .Mod (cBlt intD [cBin .Add (cV 4) (cBin .Mult (cK (.int 8111)) (cIx (cV 0) (cK (.int 2))))]) (cK (.int 2305843009213693921))) (cK (.int 8192))]) (cV 1))
def c_law_pull (n : Nat) : List D → Store → R D := fnC ["dice", "total", "found", "one", "two"] 2 (sB [s_law_pull_0 n, s_law_pull_1 n, s_law_pull_2 n, s_law_pull_3 n, s_law_pull_4 n])
theorem e_law_pull (n : Nat) : (run T (n + 11)).call "_law_pull" = c_law_pull n := by kernel_rfl
def s_law_pick_0 (n : Nat) : CS := sRet (cIx (cV 1) (cCall (run T (n + 2)) "_law_pull" 2 [cV 0, cBlt lenD [cV 1]]))
def c_law_pick (n : Nat) : List D → Store → R D := fnC ["dice", "items"] 2 (sB [s_law_pick_0 n])
theorem e_law_pick (n : Nat) : (run T (n + 6)).call "_law_pick" = c_law_pick n := by kernel_rfl
def s_law_value_0 (n : Nat) : CS := sAsg 1 (cBin .Sub (cCall (run T (n + 3)) "_law_pull" 2 [cV 0, cK (.int 1000)]) (cK (.int 500)))
def s_law_value_1 (n : Nat) : CS := sAsg 2 (cLst [cV 1, cBin .Pow (cV 1) (cK (.int 9)), cK .non, cCmp .Gt (cV 1) (cK (.int 0)), cBin .Mult (cK (.str "n")) (cBlt intD [cBlt absD [cV 1]]), cTup [cV 1, cK (.str "x")], cLst [cV 1], cDct [(cV 1, cK (.str "x"))]])
def s_law_value_2 (n : Nat) : CS := sRet (cCall (run T (n + 4)) "_law_pick" 2 [cV 0, cV 2])
def c_law_value (n : Nat) : List D → Store → R D := fnC ["dice", "number", "found"] 1 (sB [s_law_value_0 n, s_law_value_1 n, s_law_value_2 n])
theorem e_law_value (n : Nat) : (run T (n + 7)).call "_law_value" = c_law_value n := by kernel_rfl
def s_law_classes_0 (n : Nat) : CS := sAsg 1 (cLst [cBlt (isaD T) [cV 0, cK (.glb "InvalidName")], cBlt (isaD T) [cV 0, cK (.glb "InvalidCondition")], cBlt (isaD T) [cV 0, cK (.glb "InvalidQuestion")]])
def s_law_classes_1 (n : Nat) : CS := sAsg 1 (cBin .Add (cV 1) (cLst [cBlt (isaD T) [cV 0, cK (.glb "InvalidRow")], cBlt (isaD T) [cV 0, cK (.glb "InvalidLog")], cBlt (isaD T) [cV 0, cK (.glb "InvalidKind")]]))
def s_law_classes_2 (n : Nat) : CS := sAsg 1 (cBin .Add (cV 1) (cLst [cBlt (isaD T) [cV 0, cK (.glb "InvalidRest")], cBlt (isaD T) [cV 0, cK (.glb "InvalidState")], cBlt (isaD T) [cV 0, cK (.glb "InvalidMark")]]))
def s_law_classes_3 (n : Nat) : CS := sAsg 1 (cBin .Add (cV 1) (cLst [cBlt (isaD T) [cV 0, cK (.glb "InvalidOperation")], cBlt (isaD T) [cV 0, cK (.glb "ParseError")]]))
def s_law_classes_4 (n : Nat) : CS := sAsg 1 (cBin .Add (cV 1) (cLst [cBlt (isaD T) [cV 0, cK (.glb "InvalidCommand")], cBlt (isaD T) [cV 0, cK (.glb "InvalidNumber")]]))
def s_law_classes_5 (n : Nat) : CS := sAsg 1 (cBin .Add (cV 1) (cLst [cBlt (isaD T) [cV 0, cK (.glb "UnknownName")], cBlt (isaD T) [cV 0, cK (.glb "TooMany")]]))
def s_law_classes_6 (n : Nat) : CS := sRet (cBin .Add (cV 1) (cLst [cBlt (isaD T) [cV 0, cK (.glb "NothingToUndo")]]))
def c_law_classes (n : Nat) : List D → Store → R D := fnC ["error", "found"] 1 (sB [s_law_classes_0 n, s_law_classes_1 n, s_law_classes_2 n, s_law_classes_3 n, s_law_classes_4 n, s_law_classes_5 n, s_law_classes_6 n])
theorem e_law_classes (n : Nat) : (run T (n + 6)).call "_law_classes" = c_law_classes n := by kernel_rfl
def s_law_bases_0 (n : Nat) : CS := sAsg 1 (cLst [cBlt (isaD T) [cV 0, cK (.glb "RowsError")], cBlt (isaD T) [cV 0, cK (.ty "ValueError")], cBlt (isaD T) [cV 0, cK (.ty "IndexError")]])
def s_law_bases_1 (n : Nat) : CS := sAsg 1 (cBin .Add (cV 1) (cLst [cBlt (isaD T) [cV 0, cK (.ty "KeyError")], cBlt (isaD T) [cV 0, cK (.ty "OverflowError")]]))
def s_law_bases_2 (n : Nat) : CS := sRet (cBin .Add (cV 1) (cLst [cBlt (isaD T) [cV 0, cK (.ty "ArithmeticError")], cBlt (isaD T) [cV 0, cK (.ty "LookupError")]]))
def c_law_bases (n : Nat) : List D → Store → R D := fnC ["error", "found"] 1 (sB [s_law_bases_0 n, s_law_bases_1 n, s_law_bases_2 n])
theorem e_law_bases (n : Nat) : (run T (n + 6)).call "_law_bases" = c_law_bases n := by kernel_rfl
def s_law_messages_right_0 (n : Nat) : CS := sAsg 1 (cLst [cExc0 "InvalidName" (cV 0), cExc0 "InvalidCondition" (cV 0), cExc0 "InvalidQuestion" (cV 0), cExc0 "InvalidRow" (cV 0), cExc0 "InvalidLog" (cV 0)])
def s_law_messages_right_1 (n : Nat) : CS := sAsg 1 (cBin .Add (cV 1) (cLst [cExc0 "InvalidKind" (cV 0), cExc0 "InvalidRest" (cV 0), cExc0 "InvalidState" (cV 0), cExc0 "InvalidMark" (cV 0)]))
def s_law_messages_right_2 (n : Nat) : CS := sAsg 1 (cBin .Add (cV 1) (cLst [cExc0 "InvalidOperation" (cV 0), cExc0 "ParseError" (cV 0), cExc0 "InvalidCommand" (cV 0)]))
def s_law_messages_right_3 (n : Nat) : CS := sFor (wRng [cK (.int 12)]) (tg1 2) (sB [sIf (tCmp .NotEq (cCall (run T (n + 4)) "_law_classes" 1 [cIx (cV 1) (cV 2)]) (cComp (wRng [cK (.int 16)]) (tg1 3) (tTrue) (cCmp .Eq (cV 3) (cV 2)) [3])) (sB [sRet (cK (.bl false))]) (sB []), sIf (tCmp .NotEq (cCall (run T (n + 4)) "_law_bases" 1 [cIx (cV 1) (cV 2)]) (cLst [cK (.bl true), cK (.bl true), cK (.bl false), cK (.bl false), cK (.bl false), cK (.bl false), cK (.bl false)])) (sB [sRet (cK (.bl false))]) (sB [])])
def s_law_messages_right_4 (n : Nat) : CS := sRet (cAnd (cCmp .Eq (cCall (run T (n + 4)) "_law_classes" 1 [cExc0 "RowsError" (cV 0)]) (cBin .Mult (cLst [cK (.bl false)]) (cK (.int 16)))) (cCmp .Eq (cSl (cCall (run T (n + 2)) "_law_bases" 1 [cExc0 "RowsError" (cV 0)]) none (some (cK (.int 3)))) (cLst [cK (.bl true), cK (.bl true), cK (.bl false)])))
def c_law_messages_right (n : Nat) : List D → Store → R D := fnC ["text", "made", "at", "place"] 1 (sB [s_law_messages_right_0 n, s_law_messages_right_1 n, s_law_messages_right_2 n, s_law_messages_right_3 n, s_law_messages_right_4 n])
theorem e_law_messages_right (n : Nat) : (run T (n + 9)).call "_law_messages_right" = c_law_messages_right n := by kernel_rfl
def s_law_values_right_0 (n : Nat) : CS := sAsg 4 (cLst [cExc1 "InvalidNumber" "value" (cV 0), cExc1 "UnknownName" "name" (cV 1), cExc1 "TooMany" "limit" (cV 3), cExc1 "NothingToUndo" "many" (cV 2)])
def s_law_values_right_1 (n : Nat) : CS := sAsg 5 (cLst [cAttr T (cIx (cV 4) (cK (.int 0))) "value", cAttr T (cIx (cV 4) (cK (.int 1))) "name", cAttr T (cIx (cV 4) (cK (.int 2))) "limit", cAttr T (cIx (cV 4) (cK (.int 3))) "many"])
def s_law_values_right_2 (n : Nat) : CS := sIf (tCmp .NotEq (cBlt reprD [cV 5]) (cBlt reprD [cLst [cV 0, cV 1, cV 3, cV 2]])) (sB [sRet (cK (.bl false))]) (sB [])
def s_law_values_right_3 (n : Nat) : CS := sAsg 6 (cLst [cLst [cK (.int 2), cK (.int 6)], cLst [cK (.int 3), cK (.int 6)], cLst [cK (.int 4), cK (.int 5)], cLst [cK (.int 6)]])
def s_law_values_right_4 (n : Nat) : CS := sFor (wRng [cK (.int 4)]) (tg1 7) (sB [sIf (tCmp .NotEq (cCall (run T (n + 3)) "_law_classes" 1 [cIx (cV 4) (cV 7)]) (cComp (wRng [cK (.int 16)]) (tg1 8) (tTrue) (cCmp .Eq (cV 8) (cBin .Add (cK (.int 12)) (cV 7))) [8])) (sB [sRet (cK (.bl false))]) (sB []), sIf (tCmp .NotEq (cCall (run T (n + 3)) "_law_bases" 1 [cIx (cV 4) (cV 7)]) (cComp (wRng [cK (.int 7)]) (tg1 8) (tTrue) (cCmp .In (cV 8) (cIx (cV 6) (cV 7))) [8])) (sB [sRet (cK (.bl false))]) (sB [])])
def s_law_values_right_5 (n : Nat) : CS := sRet (cK (.bl true))
def c_law_values_right (n : Nat) : List D → Store → R D := fnC ["kept", "word", "number", "limit", "made", "told", "due", "at", "place"] 4 (sB [s_law_values_right_0 n, s_law_values_right_1 n, s_law_values_right_2 n, s_law_values_right_3 n, s_law_values_right_4 n, s_law_values_right_5 n])
theorem e_law_values_right (n : Nat) : (run T (n + 8)).call "_law_values_right" = c_law_values_right n := by kernel_rfl
def s_law_0 (n : Nat) : CS := sFor (wRng [cBlt maxD [cK (.int 1), cBlt minD [cK (.int 6), cBlt lenD [cV 0]]]]) (tg1 1) (sB [sAsg 2 (cCall (run T (n + 4)) "_law_dice" 2 [cV 0, cV 1]), sAsg 3 (cCall (run T (n + 4)) "_law_pick" 2 [cV 2, cLst [cK (.str ""), cK (.str "text"), cK (.str "two words"), cBin .Mult (cK (.str "x")) (cK (.int 300))]]), sPar 4 5 (cCall (run T (n + 4)) "_law_value" 1 [cV 2]) (cCall (run T (n + 4)) "_law_value" 1 [cV 2]), sIf (tNot (tOf (cCall (run T (n + 2)) "_law_messages_right" 1 [cV 3]))) (sB [sRet (cK (.bl false))]) (sB []), sIf (tNot (tOf (cCall (run T (n + 2)) "_law_values_right" 4 [cV 4, cV 5, cCall (run T (n + 1)) "_law_pull" 2 [cV 2, cK (.int 2001)], cCall (run T (n + 1)) "_law_pull" 2 [cV 2, cK (.int 100)]]))) (sB [sRet (cK (.bl false))]) (sB [])])
def s_law_1 (n : Nat) : CS := sRet (cK (.bl true))
def c_law (n : Nat) : List D → Store → R D := fnC ["script", "at", "dice", "word", "kept", "name"] 1 (sB [s_law_0 n, s_law_1 n])
theorem e_law (n : Nat) : (run T (n + 8)).call "law" = c_law n := by kernel_rfl
end K00
end

section
set_option Elab.async false
set_option linter.all false
set_option maxRecDepth 100000
namespace K00
open PySem Nd
theorem listAt_set {st : Store} {k : Nat} {l l' : List D} (h : listAt st k = some l) : listAt (st.set k (.lst l')) k = some l' := by
  have h2 : k < st.length := by
    unfold listAt at h
    split at h
    · rename_i e
      exact (List.getElem?_eq_some_iff.mp e).1
    · cases h
  unfold listAt
  rw [List.getElem?_set_self h2]
theorem at_of {st : Store} {k : Nat} {l : List D} (h : listAt st k = some l) : st[k]? = some (.lst l) := by
  unfold listAt at h
  split at h
  · rename_i e
    cases h
    exact e
  · cases h
/-- dice: at k stand three numbers -/
def Dice (st : Store) (k : Nat) : Prop := ∃ a b c, listAt st k = some [.int a, .int b, .int c]
theorem pull_ok (m : Nat) (hm : 11 ≤ m) {st : Store} {k : Nat} {t : Int} (h : Dice st k) (h0 : 0 < t) (h1 : t < 1073741824) :
    ∃ v l, (run T m).call "_law_pull" [.ref k, .int t] st = .ok (.int v) (st.set k (.lst l)) ∧ 0 ≤ v ∧ v < t ∧ Dice (st.set k (.lst l)) k := by
  obtain ⟨a, b, c, h⟩ := h
  have hk := at_of h
  obtain ⟨n, rfl⟩ := Nat.exists_eq_add_of_le' hm
  rw [e_law_pull]
  unfold c_law_pull s_law_pull_0 s_law_pull_1 s_law_pull_2 s_law_pull_3 s_law_pull_4
  by_cases ha : 0 < a
  · refine ⟨a % t, [.int (a / t), .int b, .int c], ?_, Int.emod_nonneg _ (by omega), Int.emod_lt_of_pos _ h0, _, _, _, listAt_set h⟩
    simp [Nd.start, h, hk, ha, h0, h1, L2.atI, L2.ixN]
  · refine ⟨(((b + 1000151 * (c + 1)) % 2305843009213693951 * ((b + 1000151 * (c + 1)) % 2305843009213693951)) % 2305843009213693907 * ((b + 1000151 * (c + 1)) % 2305843009213693951) + 8111 * (c + 1)) % 2305843009213693921 / 8192 % t, [.int a, .int b, .int (c + 1)], ?_, Int.emod_nonneg _ (by omega), Int.emod_lt_of_pos _ h0, _, _, _, listAt_set h⟩
    have m1 : mulOk 1000151 (c + 1) = true := mulOk_l (by decide) (by decide)
    have m2 : mulOk 8111 (c + 1) = true := mulOk_l (by decide) (by decide)
    have m3 : ∀ x y, mulOk (x % 2305843009213693951) y = true := fun x y => mulOk_mod (by decide) (by decide)
    have m4 : ∀ x y, mulOk (x % 2305843009213693907) y = true := fun x y => mulOk_mod (by decide) (by decide)
    have hk2 := at_of (listAt_set (l' := [.int a, .int b, .int (c + 1)]) h)
    have h2 := listAt_set (l' := [.int a, .int b, .int (c + 1)]) h
    simp [Nd.start, h, hk, ha, h0, h1, L2.atI, L2.ixN, m1, m2, m3, m4, h2]
theorem atI_map (ns : List Int) (i : Nat) (h : i < ns.length) : L2.atI (ns.map D.int) (i : Int) = some (.int ns[i]) := by
  rw [atI_nat (n := i) rfl (by simpa using h), List.getElem?_map, List.getElem?_eq_getElem h]
  rfl
theorem dice_tail (n : Nat) {st : Store} (d0 : D) (at_ cell : Int) : ∃ a b env, sB [s_law_dice_2 n, s_law_dice_3 n, s_law_dice_4 n] [some d0, some (.int at_), some (.int cell), none, none] st = .ok (.rt (.ref st.length), env) (st ++ [.lst [.int a, .int b, .int 0]]) := by
  have m2 : mulOk 1013 at_ = true := mulOk_l (by decide) (by decide)
  have m3 : ∀ y, mulOk 7 y = true := fun y => mulOk_l (by decide) (by decide)
  have m4 : ∀ x y, mulOk (x % 2147483477) y = true := fun x y => mulOk_mod (by decide) (by decide)
  have gp := G2_pos
  unfold s_law_dice_2 s_law_dice_3 s_law_dice_4
  simp [m2, m3, m4, gp, sizeLine_eq]
theorem dice_ok (m : Nat) (hm : 9 ≤ m) {st : Store} (ns : List Int) (i : Nat) : ∃ a b, (run T m).call "_law_dice" [.fro (ns.map .int), .int (i : Int)] st = .ok (.ref st.length) (st ++ [.lst [.int a, .int b, .int 0]]) := by
  obtain ⟨n, rfl⟩ := Nat.exists_eq_add_of_le' hm
  rw [e_law_dice]
  have m1 : mulOk 17 (i : Int) = true := mulOk_l (by decide) (by decide)
  have h0 : s_law_dice_0 n (Nd.start ["script", "at", "cell", "great", "mixed"] [.fro (ns.map .int), .int (i : Int)]) st = .ok (.nx, [some (.fro (ns.map .int)), some (.int (i : Int)), some (.int (17 * (i : Int) + 8)), none, none]) st := by
    unfold s_law_dice_0
    simp [Nd.start, m1]
  have h1 : ∃ cell : Int, s_law_dice_1 n [some (.fro (ns.map .int)), some (.int (i : Int)), some (.int (17 * (i : Int) + 8)), none, none] st = .ok (.nx, [some (.fro (ns.map .int)), some (.int (i : Int)), some (.int cell), none, none]) st := by
    unfold s_law_dice_1
    by_cases hi : (i : Int) < ns.length
    · have ha := atI_map ns i (by omega)
      exact ⟨ns[i], by simp [hi, ha]⟩
    · exact ⟨17 * (i : Int) + 8, by simp [hi]⟩
  obtain ⟨cell, h1⟩ := h1
  obtain ⟨a, b, env, h2⟩ := dice_tail n (st := st) (.fro (ns.map .int)) i cell
  refine ⟨a, b, ?_⟩
  unfold c_law_dice
  exact fnC_rt rfl ((sB_nx h0).trans ((sB_nx h1).trans h2))
/-- one of the items of a list, a tuple -/
theorem pick_ref (m : Nat) (hm : 15 ≤ m) {st : Store} {k j : Nat} {l : List D} (h : Dice st k) (hj : listAt st j = some l) (hk : j ≠ k) (h0 : 0 < l.length) (h1 : l.length < 1073741824) :
    ∃ d l', d ∈ l ∧ (run T m).call "_law_pick" [.ref k, .ref j] st = .ok d (st.set k (.lst l')) ∧ Dice (st.set k (.lst l')) k := by
  obtain ⟨n, rfl⟩ := Nat.exists_eq_add_of_le' hm
  obtain ⟨v, l', e, v0, v1, hd⟩ := pull_ok (n + 9 + 2) (by omega) (t := (l.length : Int)) h (by omega) (by omega)
  have e2 := e_law_pick (n + 9)
  rw [e2]
  unfold c_law_pick s_law_pick_0
  have hm2 : listAt (st.set k (.lst l')) j = some l := by
    have := at_of hj
    unfold listAt
    rw [List.getElem?_set_ne (Ne.symm hk), this]
  have hv : v.toNat < l.length := by omega
  have ha : L2.atI l v = some l[v.toNat] := by rw [atI_nat (n := v.toNat) (by omega) hv, List.getElem?_eq_getElem hv]
  refine ⟨l[v.toNat], l', List.getElem_mem hv, ?_, hd⟩
  simp [Nd.start, hj, e, hm2, ha]
/-! ### the classes of an error -/
def names : List Str := ["InvalidName", "InvalidCondition", "InvalidQuestion", "InvalidRow", "InvalidLog", "InvalidKind", "InvalidRest", "InvalidState", "InvalidMark", "InvalidOperation", "ParseError", "InvalidCommand", "InvalidNumber", "UnknownName", "TooMany", "NothingToUndo"]
def row (x : Str) : List Bool := names.map fun c => isaT T x (.glb c)
def based (x : Str) : List Bool := [isaT T x (.glb "RowsError"), isaT T x (.ty "ValueError"), isaT T x (.ty "IndexError"), isaT T x (.ty "KeyError"), isaT T x (.ty "OverflowError"), isaT T x (.ty "ArithmeticError"), isaT T x (.ty "LookupError")]
theorem classes_ok (m : Nat) (hm : 6 ≤ m) {st : Store} {x : Str} {fs : List (Str × D)} (hx : (T.excs.lookup x).isSome = true) : ∃ j more, (run T m).call "_law_classes" [.exc x fs] st = .ok (.ref j) (st ++ more) ∧ listAt (st ++ more) j = some ((row x).map D.bl) := by
  obtain ⟨n, rfl⟩ := Nat.exists_eq_add_of_le' hm
  rw [e_law_classes]
  unfold c_law_classes s_law_classes_0 s_law_classes_1 s_law_classes_2 s_law_classes_3 s_law_classes_4 s_law_classes_5 s_law_classes_6
  have hi : ∀ c, askC T c = true → ∀ st, isaD T [.exc x fs, c] st = some (.bl (isaT T x c), st) := fun c hc st => isa_exc hx hc
  refine ⟨st.length + 12, ?_⟩
  simp [Nd.start, hi, sizeLine_eq, listAt_cons, row, names]
theorem bases_ok (m : Nat) (hm : 6 ≤ m) {st : Store} {x : Str} {fs : List (Str × D)} (hx : (T.excs.lookup x).isSome = true) : ∃ j more, (run T m).call "_law_bases" [.exc x fs] st = .ok (.ref j) (st ++ more) ∧ listAt (st ++ more) j = some ((based x).map D.bl) := by
  obtain ⟨n, rfl⟩ := Nat.exists_eq_add_of_le' hm
  rw [e_law_bases]
  unfold c_law_bases s_law_bases_0 s_law_bases_1 s_law_bases_2
  have hi : ∀ c, askC T c = true → ∀ st, isaD T [.exc x fs, c] st = some (.bl (isaT T x c), st) := fun c hc st => isa_exc hx hc
  refine ⟨st.length + 4, ?_⟩
  simp [Nd.start, hi, sizeLine_eq, listAt_cons, based]
/-! ### the classes that take a message -/
theorem rows12 : ∀ i : Fin 12, row (names[i.1]'(by show _ < 16; omega)) = (List.range 16).map fun a => decide (((a : Nat) : Int) = (i.1 : Int)) := by decide +kernel
theorem based12 : ∀ i : Fin 12, based (names[i.1]'(by show _ < 16; omega)) = [true, true, false, false, false, false, false] := by decide +kernel
theorem known : ∀ i : Fin 16, (T.excs.lookup (names[i.1]'(by show _ < 16; omega))).isSome = true := by decide +kernel
def made12 : List D := (names.take 12).map fun x => .exc x []
theorem call_at (n : Nat) {f : Str} {a b : Nat} {env : Nd.Env} {st st' : Store} {l : List D} {d : D} {j : Nat} {i : Nat} {e : D} (h1 : (env[a]?).join = some (.ref j)) (h2 : (env[b]?).join = some (.int (i : Int))) (hj : listAt st j = some l) (hi : l[i]? = some d) (hc : (run T n).call f [d] st = .ok e st') :
    cCall (run T n) f 1 [cIx (cV a) (cV b)] env st = .ok e st' := by
  have hlt : i < l.length := (List.getElem?_eq_some_iff.mp hi).1
  rw [cCall_E, cArgs_cons, cIx_E, cV_E, h1, ret_someE, bind_okE, cV_E, h2, ret_someE, bind_okE, at_ref, hj, Option.bind_some, atI_nat rfl hlt, hi, ret_someE, bind_okE, cArgs_nil, bind_okE, bind_okE, if_pos (show [d].length = 1 from rfl), hc]
/-- two lists of truth values are alike: the suite is passed by -/
theorem if_alike {a b : CE} {env : Nd.Env} {st st1 st2 : Store} {x y : Nat} {bs : List Bool} {S : CS} (h1 : a env st = .ok (.ref x) st1) (h2 : b env st1 = .ok (.ref y) st2) (l1 : listAt st2 x = some (bs.map D.bl)) (l2 : listAt st2 y = some (bs.map D.bl)) :
    sIf (tCmp .NotEq a b) S (sB []) env st = .ok (.nx, env) st2 := by
  rw [sIf_E, tCmp_E, h1, bind_okE, h2, bind_okE, eq_bls l1 l2]
  simp
theorem lst_bls {bs : List Bool} {env : Nd.Env} {st : Store} (hz : bs.length ≤ 100) : cLst (bs.map fun b => cK (.bl b)) env st = .ok (.ref st.length) (st ++ [.lst (bs.map D.bl)]) := by
  have : ∀ bs : List Bool, cArgs (bs.map fun b => cK (.bl b)) env st = .ok (bs.map D.bl) st := by
    intro bs
    induction bs with
    | nil => rfl
    | cons b bs ih => rw [List.map_cons, cArgs_cons, cK_E, bind_okE, ih, bind_okE]; rfl
  have hs := sizeLine_eq
  rw [cLst_E, this, bind_okE, if_pos (by rw [List.length_map]; omega), alloc_E, lft_someE]
theorem ok_body (n : Nat) (hn : 2 ≤ n) {st : Store} {w : D} {j : Nat} {b : Option D} (hj : listAt st j = some made12) (i : Nat) (hi : i < 12) :
    ∃ more, (sB [sIf (tCmp .NotEq (cCall (run T (n + 4)) "_law_classes" 1 [cIx (cV 1) (cV 2)]) (cComp (wRng [cK (.int 16)]) (tg1 3) (tTrue) (cCmp .Eq (cV 3) (cV 2)) [3])) (sB [sRet (cK (.bl false))]) (sB []), sIf (tCmp .NotEq (cCall (run T (n + 4)) "_law_bases" 1 [cIx (cV 1) (cV 2)]) (cLst [cK (.bl true), cK (.bl true), cK (.bl false), cK (.bl false), cK (.bl false), cK (.bl false), cK (.bl false)])) (sB [sRet (cK (.bl false))]) (sB [])]) [some w, some (.ref j), some (.int (i : Int)), b] st = .ok (.nx, [some w, some (.ref j), some (.int (i : Int)), b]) (st ++ more) := by
  have hk := known ⟨i, by omega⟩
  have hat : made12[i]? = some (.exc (names[i]'(by show i < 16; omega)) []) := by
    unfold made12
    rw [List.getElem?_map, List.getElem?_take_of_lt hi, List.getElem?_eq_getElem (show i < names.length by show i < 16; omega)]
    rfl
  obtain ⟨j2, m2, e2, l2⟩ := classes_ok (n + 4) (by omega) (st := st) (fs := []) hk
  have c1 := call_at (n + 4) (f := "_law_classes") (a := 1) (b := 2) (env := [some w, some (.ref j), some (.int (i : Int)), b]) rfl rfl hj hat e2
  have c2 := comp_rng 16 (by omega) 3 (cCmp .Eq (cV 3) (cV 2)) (fun a => decide (((a : Nat) : Int) = (i : Int))) (env := [some w, some (.ref j), some (.int (i : Int)), b]) (st := st ++ m2) fun a _ => by simp [wipeE]
  have s1 := if_alike (S := sB [sRet (cK (.bl false))]) c1 c2 (listAt_old l2) (by rw [listAt_app0, listAt_0, rows12 ⟨i, hi⟩])
  obtain ⟨j3, m3, e3, l3⟩ := bases_ok (n + 4) (by omega) (st := (st ++ m2) ++ [.lst (((List.range 16).map fun a => decide (((a : Nat) : Int) = (i : Int))).map D.bl)]) (fs := []) hk
  have c3 := call_at (n + 4) (f := "_law_bases") (a := 1) (b := 2) (env := [some w, some (.ref j), some (.int (i : Int)), b]) rfl rfl (listAt_old (listAt_old hj)) hat e3
  have c4 := lst_bls (bs := [true, true, false, false, false, false, false]) (env := [some w, some (.ref j), some (.int (i : Int)), b]) (st := ((st ++ m2) ++ [.lst (((List.range 16).map fun a => decide (((a : Nat) : Int) = (i : Int))).map D.bl)]) ++ m3) (by decide)
  have s2 := if_alike (S := sB [sRet (cK (.bl false))]) c3 c4 (listAt_old (by rw [l3, based12 ⟨i, hi⟩])) (by rw [listAt_app0, listAt_0])
  refine ⟨m2 ++ ([.lst (((List.range 16).map fun a => decide (((a : Nat) : Int) = (i : Int))).map D.bl)] ++ (m3 ++ [.lst ([true, true, false, false, false, false, false].map D.bl)])), ?_⟩
  refine (sB_nx s1).trans ?_
  refine (sB_nx s2).trans ?_
  rw [sB_nil]
  simp only [List.append_assoc]
def ex (x : Str) : D := .exc x []
def m0 : List Ob := [.lst [ex "InvalidName", ex "InvalidCondition", ex "InvalidQuestion", ex "InvalidRow", ex "InvalidLog"], .lst [ex "InvalidKind", ex "InvalidRest", ex "InvalidState", ex "InvalidMark"],
  .lst [ex "InvalidName", ex "InvalidCondition", ex "InvalidQuestion", ex "InvalidRow", ex "InvalidLog", ex "InvalidKind", ex "InvalidRest", ex "InvalidState", ex "InvalidMark"], .lst [ex "InvalidOperation", ex "ParseError", ex "InvalidCommand"], .lst made12]
theorem rng12 : rngL 0 12 = (List.range 12).map fun (a : Nat) => D.int (a : Int) := by
  unfold rngL
  refine List.map_congr_left fun a _ => ?_
  rw [Int.zero_add]
theorem messages_ok (m : Nat) (hm : 13 ≤ m) {st : Store} {w : D} : ∃ more, (run T m).call "_law_messages_right" [w] st = .ok (.bl true) (st ++ more) := by
  obtain ⟨n, rfl⟩ := Nat.exists_eq_add_of_le' hm
  have e0 := e_law_messages_right (n + 4)
  have a0 : s_law_messages_right_0 (n + 4) (Nd.start ["text", "made", "at", "place"] [w]) st = .ok (.nx, [some w, some (.ref st.length), none, none]) (st ++ m0.take 1) := by
    unfold s_law_messages_right_0
    simp [Nd.start, sizeLine_eq, m0, ex]
  have a1 : s_law_messages_right_1 (n + 4) [some w, some (.ref st.length), none, none] (st ++ m0.take 1) = .ok (.nx, [some w, some (.ref (st.length + 2)), none, none]) (st ++ m0.take 3) := by
    unfold s_law_messages_right_1
    simp [Nd.start, sizeLine_eq, m0, ex]
  have a2 : s_law_messages_right_2 (n + 4) [some w, some (.ref (st.length + 2)), none, none] (st ++ m0.take 3) = .ok (.nx, [some w, some (.ref (st.length + 4)), none, none]) (st ++ m0) := by
    unfold s_law_messages_right_2
    simp [Nd.start, sizeLine_eq, m0, ex, listAt_cons, made12, names]
  have a3 : ∃ a b more, s_law_messages_right_3 (n + 4) [some w, some (.ref (st.length + 4)), none, none] (st ++ m0) = .ok (.nx, [some w, some (.ref (st.length + 4)), a, b]) (st ++ more) := by
    unfold s_law_messages_right_3
    have q := forItems_inv (tg := tg1 2) (body := sB [sIf (tCmp .NotEq (cCall (run T (n + 4 + 4)) "_law_classes" 1 [cIx (cV 1) (cV 2)]) (cComp (wRng [cK (.int 16)]) (tg1 3) (tTrue) (cCmp .Eq (cV 3) (cV 2)) [3])) (sB [sRet (cK (.bl false))]) (sB []), sIf (tCmp .NotEq (cCall (run T (n + 4 + 4)) "_law_bases" 1 [cIx (cV 1) (cV 2)]) (cLst [cK (.bl true), cK (.bl true), cK (.bl false), cK (.bl false), cK (.bl false), cK (.bl false), cK (.bl false)])) (sB [sRet (cK (.bl false))]) (sB [])])
      (P := fun env s2 => ∃ a b more, env = [some w, some (.ref (st.length + 4)), a, b] ∧ s2 = st ++ more ∧ listAt s2 (st.length + 4) = some made12) (rngL 0 12) (fun d hd env s2 ⟨a, b, more, e1, e2, e3⟩ => by
        rw [rng12] at hd
        obtain ⟨i, hi, rfl⟩ := List.mem_map.mp hd
        subst e1
        refine ⟨[some w, some (.ref (st.length + 4)), some (.int (i : Int)), b], rfl, ?_⟩
        obtain ⟨m2, h2⟩ := ok_body (n + 4) (by omega) (w := w) (b := b) e3 i (by simpa using hi)
        refine ⟨_, _, h2, some (.int (i : Int)), b, more ++ m2, rfl, by rw [e2, List.append_assoc], listAt_old e3⟩) [some w, some (.ref (st.length + 4)), none, none] (st ++ m0) ⟨none, none, m0, rfl, rfl, by rw [listAt_app]; rfl⟩
    obtain ⟨env', st', h1, a, b, more, rfl, rfl, _⟩ := q
    refine ⟨a, b, more, ?_⟩
    rw [sFor_E, wRng_E, cArgs_cons, cK_E, bind_okE, cArgs_nil, bind_okE, bind_okE, rngW_1, if_pos (by decide +kernel), owk_some, bind_okE]
    exact h1
  obtain ⟨a, b, more, a3⟩ := a3
  have a4 : ∃ more', s_law_messages_right_4 (n + 4) [some w, some (.ref (st.length + 4)), a, b] (st ++ more) = .ok (.rt (.bl true), [some w, some (.ref (st.length + 4)), a, b]) (st ++ more') := by
    have r1 : row "RowsError" = List.replicate 16 false := by decide +kernel
    have r2 : based "RowsError" = [true, true, false, false, false, false, false] := by decide +kernel
    have hk : (T.excs.lookup ("RowsError" : Str)).isSome = true := by decide +kernel
    generalize hS : st ++ more = S
    generalize hE : [some w, some (D.ref (st.length + 4)), a, b] = env
    have hw : (env[0]?).join = some w := by rw [← hE]; rfl
    have hx : ∀ s2, cArgs [cExc0 "RowsError" (cV 0)] env s2 = .ok [ex "RowsError"] s2 := fun s2 => by
      rw [cArgs_cons, cExc0_E, cV_E, hw, ret_someE, bind_okE, bind_okE, cArgs_nil, bind_okE]
      rfl
    obtain ⟨j2, m2, e2, l2⟩ := classes_ok (n + 4 + 4) (by omega) (st := S) (fs := []) hk
    have c1 : cCall (run T (n + 4 + 4)) "_law_classes" 1 [cExc0 "RowsError" (cV 0)] env S = .ok (.ref j2) (S ++ m2) := by
      rw [cCall_E, hx, bind_okE, if_pos (show [ex "RowsError"].length = 1 from rfl)]
      exact e2
    have c2 : cBin .Mult (cLst [cK (.bl false)]) (cK (.int 16)) env (S ++ m2) = .ok (.ref ((S ++ m2) ++ [Ob.lst [D.bl false]]).length) (((S ++ m2) ++ [Ob.lst [D.bl false]]) ++ [Ob.lst ((List.replicate 16 false).map D.bl)]) := by
      have l := lst_bls (bs := [false]) (env := env) (st := S ++ m2) (by decide)
      rw [cBin_E]
      refine (congrArg (fun z => R.bind z _) l).trans ?_
      rw [bind_okE, cK_E, bind_okE]
      have q := mul_ref (k := 16) (n := (S ++ m2).length) (l := [D.bl false]) (st := (S ++ m2) ++ [Ob.lst [D.bl false]]) (by rw [listAt_app0, listAt_0]) (by omega) (by simp)
      refine (congrArg lft q).trans ?_
      rfl
    have c3 := cmp_alike c1 c2 (listAt_old (listAt_old (by rw [l2, r1]))) (by rw [listAt_app0, listAt_0])
    obtain ⟨j3, m3, e3, l3⟩ := bases_ok (n + 4 + 2) (by omega) (st := ((S ++ m2) ++ [Ob.lst [D.bl false]]) ++ [Ob.lst ((List.replicate 16 false).map D.bl)]) (fs := []) hk
    generalize hU : ((S ++ m2) ++ [Ob.lst [D.bl false]]) ++ [Ob.lst ((List.replicate 16 false).map D.bl)] = U at c3 e3 l3
    have d1 : cCall (run T (n + 4 + 2)) "_law_bases" 1 [cExc0 "RowsError" (cV 0)] env U = .ok (.ref j3) (U ++ m3) := by
      rw [cCall_E, hx, bind_okE, if_pos (show [ex "RowsError"].length = 1 from rfl)]
      exact e3
    have d2 : cSl (cCall (run T (n + 4 + 2)) "_law_bases" 1 [cExc0 "RowsError" (cV 0)]) none (some (cK (.int 3))) env U = .ok (.ref (U ++ m3).length) ((U ++ m3) ++ [Ob.lst ([true, true, false].map D.bl)]) := by
      rw [cSl_E, d1, bind_okE, cPart_none, bind_okE, cPart_some, cK_E, bind_okE]
      dsimp only
      rw [bind_okE, sl_ref l3, lft_someE, r2]
      rfl
    have d3 := lst_bls (bs := [true, true, false]) (env := env) (st := (U ++ m3) ++ [Ob.lst ([true, true, false].map D.bl)]) (by decide)
    have d4 := cmp_alike d2 d3 (listAt_old (by rw [listAt_app0, listAt_0])) (by rw [listAt_app0, listAt_0])
    refine ⟨more ++ (m2 ++ ([Ob.lst [D.bl false]] ++ ([Ob.lst ((List.replicate 16 false).map D.bl)] ++ (m3 ++ ([Ob.lst ([true, true, false].map D.bl)] ++ [Ob.lst ([true, true, false].map D.bl)]))))), ?_⟩
    unfold s_law_messages_right_4
    rw [sRet_E]
    refine (congrArg (fun z => R.bind z _) ((cAnd_true c3).trans d4)).trans ?_
    rw [bind_okE, ← hU, ← hS]
    simp only [List.append_assoc]
  obtain ⟨more', a4⟩ := a4
  refine ⟨more', ?_⟩
  rw [e0]
  unfold c_law_messages_right
  exact fnC_rt rfl ((sB_nx a0).trans ((sB_nx a1).trans ((sB_nx a2).trans ((sB_nx a3).trans (sB_rt a4)))))
end K00
end

section
set_option Elab.async false
set_option linter.all false
set_option maxRecDepth 100000
namespace K00
open PySem Nd
/-! ### what a drawn value shows -/
structure PdOk (p : PyData) : Prop where
  sh : p.showable = true
  dp : p.depth ≤ 10
  lv : p.leavesShort 100 = true
  wt : p.weight ≤ 2000
theorem int_ok {i : Int} (h : i.natAbs < 10 ^ 30) : PdOk (.int i) := by
  have h1 : i.natAbs.log2 < 100 := by
    by_cases z : i.natAbs = 0
    · rw [z]
      decide
    · exact (Nat.log2_lt z).mpr (Nat.lt_of_lt_of_le h (by decide))
  refine ⟨?_, by simp [PyData.depth], ?_, ?_⟩
  · simp only [PyData.showable, decide_eq_true_eq]
    omega
  · have h2 := int_text_length_le10 (a := i) (k := 30) (by decide) h
    have e : (Str.ofString (toString i)).length = (toString i).length := by rw [ofString_length]
    unfold PyData.leavesShort
    refine decide_eq_true ?_
    rw [show PyData.shown (.int i) = Str.ofString (toString i) by unfold PyData.shown; rfl]
    omega
  · unfold PyData.weight
    split <;> omega
/-- all but place k stays, more may come -/
def Keep (k : Nat) (st st' : Store) : Prop := st.length ≤ st'.length ∧ ∀ j, j < st.length → j ≠ k → st'[j]? = st[j]?
theorem Keep.refl {k : Nat} {st : Store} : Keep k st st := ⟨Nat.le_refl _, fun _ _ _ => rfl⟩
theorem Keep.trans {k : Nat} {a b c : Store} (h : Keep k a b) (g : Keep k b c) : Keep k a c := ⟨Nat.le_trans h.1 g.1, fun j hj hk => (g.2 j (by have := h.1; omega) hk).trans (h.2 j hj hk)⟩
theorem Keep.app {k : Nat} {st more : Store} : Keep k st (st ++ more) := ⟨by simp, fun j hj _ => List.getElem?_append_left hj⟩
theorem Keep.set {k : Nat} {st : Store} {o : Ob} : Keep k st (st.set k o) := ⟨by simp, fun j _ hk => List.getElem?_set_ne (Ne.symm hk)⟩
def Shown (k : Nat) (st : Store) (d : D) : Prop := ∃ p, PdOk p ∧ ∀ st', Keep k st st' → shwE st' d = some p
theorem Shown.keep {k : Nat} {st st' : Store} {d : D} (h : Shown k st d) (g : Keep k st st') : Shown k st' d := by
  obtain ⟨p, hp, hs⟩ := h
  exact ⟨p, hp, fun st2 g2 => hs st2 (g.trans g2)⟩
theorem shown_flat {k : Nat} {st : Store} {d : D} {p : PyData} (hp : PdOk p) (h : ∀ st', shwE st' d = some p) : Shown k st d := ⟨p, hp, fun st' _ => h st'⟩
theorem pd_lst {p : PyData} (h : PdOk p) (hd : p.depth ≤ 8) (hw : p.weight ≤ 1000) : PdOk (.list [p]) := ⟨by simp [PyData.showable, PyData.showableAll, h.sh], by simp only [PyData.depth, PyData.depthAll]; omega, by simp [PyData.leavesShort, PyData.leavesShortAll, h.lv], by simp only [PyData.weight, PyData.weightAll]; omega⟩
theorem pd_tup2 {p q : PyData} (h : PdOk p) (g : PdOk q) (hd : p.depth ≤ 4) (gd : q.depth ≤ 4) (hw : p.weight ≤ 500) (gw : q.weight ≤ 500) : PdOk (.tuple [p, q]) := ⟨by simp [PyData.showable, PyData.showableAll, h.sh, g.sh], by simp only [PyData.depth, PyData.depthAll]; omega, by simp [PyData.leavesShort, PyData.leavesShortAll, h.lv, g.lv], by simp only [PyData.weight, PyData.weightAll]; omega⟩
theorem pd_dct1 {p q : PyData} (h : PdOk p) (g : PdOk q) (hd : p.depth ≤ 4) (gd : q.depth ≤ 4) (hw : p.weight ≤ 500) (gw : q.weight ≤ 500) : PdOk (.dict [(p, q)]) := ⟨by simp [PyData.showable, PyData.showableKv, h.sh, g.sh], by simp only [PyData.depth, PyData.depthKv]; omega, by simp [PyData.leavesShort, PyData.leavesShortKv, h.lv, g.lv], by simp only [PyData.weight, PyData.weightKv]; omega⟩
theorem str_ok (x : Str) (h1 : x.cps.toList.all (fun c => decide (c < 16 ^ 8)) = true) (h2 : x.cps.size ≤ 2000) : PdOk (.str x) := ⟨by simp [PyData.showable], by simp [PyData.depth], by unfold PyData.leavesShort; exact h1, by unfold PyData.weight; exact h2⟩
theorem repS_cps (k : Nat) (hk : k ≤ 1000) : PdOk (.str (repS "n" k)) := by
  have h : ∀ (m : Nat) (acc : Array Nat), (acc.toList.all fun c => decide (c < 16 ^ 8)) = true → (((List.replicate m ("n" : Str).cps).foldl (· ++ ·) acc).toList.all fun c => decide (c < 16 ^ 8)) = true ∧ ((List.replicate m ("n" : Str).cps).foldl (· ++ ·) acc).size = acc.size + m := by
    intro m
    induction m with
    | zero => intro acc h; exact ⟨h, rfl⟩
    | succ m ih =>
      intro acc h
      rw [List.replicate_succ, List.foldl_cons]
      have e : (("n" : Str).cps) = #[110] := by decide +kernel
      have h2 : ((acc ++ ("n" : Str).cps).toList.all fun c => decide (c < 16 ^ 8)) = true := by
        rw [e, Array.toList_append, List.all_append, h]
        decide
      obtain ⟨i1, i2⟩ := ih _ h2
      refine ⟨i1, ?_⟩
      rw [i2, Array.size_append, e]
      show acc.size + 1 + m = _
      omega
  unfold repS
  by_cases h1 : k < 1
  · rw [if_pos h1]
    exact str_ok _ (by decide +kernel) (by decide +kernel)
  · rw [if_neg h1]
    split
    · exact str_ok _ (by decide +kernel) (by decide +kernel)
    · obtain ⟨i1, i2⟩ := h k #[] (by decide)
      refine str_ok _ i1 ?_
      rw [i2]
      show 0 + k ≤ 2000
      omega
theorem pow9 {z : Int} (h : z.natAbs ≤ 500) : powOk z 9 = true := by
  have h1 : z.natAbs.log2 < 100 := by
    by_cases e : z.natAbs = 0
    · rw [e]
      decide
    · exact (Nat.log2_lt e).mpr (Nat.lt_of_le_of_lt h (by decide))
  have h2 : Builtin.Int.intBits z ≤ 100 := by
    unfold Builtin.Int.intBits
    split <;> omega
  unfold powOk
  rw [decide_eq_true (by decide), decide_eq_true (by omega)]
  rfl
theorem value_ok (m : Nat) (hm : 21 ≤ m) {st : Store} {k : Nat} (h : Dice st k) (hk : k < st.length) : ∃ d st', (run T m).call "_law_value" [.ref k] st = .ok d st' ∧ Dice st' k ∧ Keep k st st' ∧ Shown k st' d := by
  obtain ⟨n, rfl⟩ := Nat.exists_eq_add_of_le' hm
  have e0 := e_law_value (n + 14)
  obtain ⟨v, l1, e1, v0, v1, hd1⟩ := pull_ok (n + 14 + 3) (by omega) (t := 1000) h (by omega) (by omega)
  have kp1 : Keep k st (st.set k (.lst l1)) := Keep.set
  have kl : k < (st.set k (.lst l1)).length := by simpa using hk
  generalize hs1 : st.set k (.lst l1) = s1 at e1 hd1 kp1 kl
  generalize hz : v - 500 = z
  have zb : z.natAbs ≤ 500 := by omega
  have a0 : s_law_value_0 (n + 14) (Nd.start ["dice", "number", "found"] [.ref k]) st = .ok (.nx, [some (.ref k), some (.int z), none]) s1 := by
    unfold s_law_value_0
    simp [Nd.start, e1, hz]
  have zn : (if z < 0 then -z else z) = ((z.natAbs : Nat) : Int) := by split <;> omega
  have hm2 : mulD (.str "n") (.int ((z.natAbs : Nat) : Int)) = fun st => some (.str (repS "n" z.natAbs), st) := by
    funext st
    show (if 0 ≤ ((z.natAbs : Nat) : Int) ∧ ("n" : Str).length * (((z.natAbs : Nat) : Int)).toNat ≤ 2 ^ 20 ∧ ((z.natAbs : Nat) : Int) < 2 ^ 20 then some (D.str (repS "n" (((z.natAbs : Nat) : Int)).toNat), st) else none) = _
    have e : ("n" : Str).length = 1 := by decide +kernel
    rw [if_pos ⟨by omega, by rw [e, Int.toNat_natCast]; omega, by omega⟩, Int.toNat_natCast]
  have hm3 : ∀ st, binop .Mult (.str "n") (.int ((z.natAbs : Nat) : Int)) st = some (.str (repS "n" z.natAbs), st) := fun st => congrFun hm2 st
  have hp : ∀ st, binop .Pow (.int z) (.int 9) st = some (.int (z ^ 9), st) := fun st => by
    rw [pow_ints, if_pos (pow9 zb)]
    rfl
  have a1 : s_law_value_1 (n + 14) [some (.ref k), some (.int z), none] s1 = .ok (.nx, [some (.ref k), some (.int z), some (.ref (s1.length + 2))]) (s1 ++ [.lst [.int z], .dct [(.inl z, .str "x")], .lst [.int z, .int (z ^ 9), .non, .bl (decide (0 < z)), .str (repS "n" z.natAbs), .tup [.int z, .str "x"], .ref s1.length, .ref (s1.length + 1)]]) := by
    unfold s_law_value_1
    simp [hp, zn, hm3, sizeLine_eq, keyD, putD]
  have a2 := a1
  generalize hs2 : s1 ++ [Ob.lst [.int z], .dct [(.inl z, .str "x")], .lst [.int z, .int (z ^ 9), .non, .bl (decide (0 < z)), .str (repS "n" z.natAbs), .tup [.int z, .str "x"], .ref s1.length, .ref (s1.length + 1)]] = s2 at a1
  have kp2 : Keep k s1 s2 := by rw [← hs2]; exact Keep.app
  have hd2 : Dice s2 k := by
    obtain ⟨a, b, c, hd⟩ := hd1
    exact ⟨a, b, c, by rw [← hs2]; exact listAt_old hd⟩
  have hf : listAt s2 (s1.length + 2) = some [.int z, .int (z ^ 9), .non, .bl (decide (0 < z)), .str (repS "n" z.natAbs), .tup [.int z, .str "x"], .ref s1.length, .ref (s1.length + 1)] := by
    rw [← hs2, listAt_app]
    rfl
  obtain ⟨d, l3, hmem, e3, hd3⟩ := pick_ref (n + 14 + 4) (by omega) hd2 hf (by omega) (by simp) (by simp)
  have kp3 : Keep k s2 (s2.set k (.lst l3)) := Keep.set
  have a3 : s_law_value_2 (n + 14) [some (.ref k), some (.int z), some (.ref (s1.length + 2))] s2 = .ok (.rt d, [some (.ref k), some (.int z), some (.ref (s1.length + 2))]) (s2.set k (.lst l3)) := by
    unfold s_law_value_2
    simp [e3]
  refine ⟨d, s2.set k (.lst l3), ?_, hd3, kp1.trans (kp2.trans kp3), ?_⟩
  · rw [e0]
    unfold c_law_value
    exact fnC_rt rfl ((sB_nx a0).trans ((sB_nx a1).trans (sB_rt a3)))
  have g0 : s2[s1.length]? = some (.lst [.int z]) := by
    rw [← hs2, List.getElem?_append_right (Nat.le_refl _), Nat.sub_self]
    rfl
  have g1 : s2[s1.length + 1]? = some (.dct [(.inl z, .str "x")]) := by
    rw [← hs2, List.getElem?_append_right (Nat.le_add_right _ _), Nat.add_sub_cancel_left]
    rfl
  have len2 : s2.length = s1.length + 3 := by rw [← hs2]; simp
  have b1 : (z ^ 9).natAbs < 10 ^ 30 := by
    rw [Int.natAbs_pow]
    exact Nat.lt_of_le_of_lt (Nat.pow_le_pow_left zb 9) (by decide)
  have iz : PdOk (.int z) := int_ok (Nat.lt_of_le_of_lt zb (by decide))
  have wz : (PyData.int z).weight ≤ 100 := by
    have h1 : z.natAbs.log2 < 99 := by
      by_cases e : z.natAbs = 0
      · rw [e]; decide
      · exact (Nat.log2_lt e).mpr (Nat.lt_of_le_of_lt zb (by decide))
    unfold PyData.weight
    split <;> omega
  have sx : (PyData.str "x").weight ≤ 1 := by decide +kernel
  have xk : PdOk (.str "x") := str_ok _ (by decide +kernel) (by decide +kernel)
  have dz : (PyData.int z).depth ≤ 4 := by simp [PyData.depth]
  simp only [List.mem_cons, List.not_mem_nil, or_false] at hmem
  rcases hmem with rfl | rfl | rfl | rfl | rfl | rfl | rfl | rfl
  · exact shown_flat iz fun _ => rfl
  · exact shown_flat (int_ok b1) fun _ => rfl
  · exact shown_flat (p := .none) ⟨by simp [PyData.showable], by simp [PyData.depth], by simp [PyData.leavesShort], by simp [PyData.weight]⟩ fun _ => rfl
  · exact shown_flat (p := .bool (decide (0 < z))) ⟨by simp [PyData.showable], by simp [PyData.depth], by simp [PyData.leavesShort], by simp [PyData.weight]⟩ fun _ => rfl
  · exact shown_flat (repS_cps _ (by omega)) fun _ => rfl
  · exact shown_flat (pd_tup2 iz xk dz (by simp [PyData.depth]) (by omega) (by omega)) fun _ => rfl
  · refine ⟨.list [.int z], pd_lst iz (by omega) (by omega), fun st' g => ?_⟩
    have q : st'[s1.length]? = some (.lst [.int z]) := by
      rw [g.2 s1.length (by rw [List.length_set]; omega) (by omega), List.getElem?_set_ne (by omega), g0]
    have e : listAt st' s1.length = some [.int z] := by
      unfold listAt
      rw [q]
    show (match st'[s1.length]? with | some (.dct l) => shwD st' l | _ => dat st' 60 (.ref s1.length)) = _
    rw [q]
    dsimp only
    rw [dat_lst e]
    rfl
  · refine ⟨.dict [(.int z, .str "x")], pd_dct1 iz xk dz (by simp [PyData.depth]) (by omega) (by omega), fun st' g => ?_⟩
    have q : st'[s1.length + 1]? = some (.dct [(.inl z, .str "x")]) := by
      rw [g.2 (s1.length + 1) (by rw [List.length_set]; omega) (by omega), List.getElem?_set_ne (by omega), g1]
    show (match st'[s1.length + 1]? with | some (.dct l) => shwD st' l | _ => dat st' 60 (.ref (s1.length + 1))) = _
    rw [q]
    rfl
end K00
end

section
set_option Elab.async false
set_option linter.all false
set_option maxRecDepth 100000
namespace K00
open PySem Nd
theorem repr4 {k : Nat} {st st' : Store} {d1 d2 : D} {p1 p2 : PyData} {a b : Int} {t : Nat} (g : Keep k st st') (o1 : PdOk p1) (s1 : ∀ st', Keep k st st' → shwE st' d1 = some p1) (o2 : PdOk p2) (s2 : ∀ st', Keep k st st' → shwE st' d2 = some p2)
    (ha : a.natAbs < 10 ^ 30) (hb : b.natAbs < 10 ^ 30) (ht : listAt st' t = some [d1, d2, .int b, .int a]) : reprD [.ref t] st' = some (.str (PyData.list [p1, p2, .int b, .int a]).shown, st') := by
  have oa := int_ok ha
  have ob := int_ok hb
  have hq : st'[t]? = some (.lst [d1, d2, .int b, .int a]) := at_of ht
  have hs : shw st' (.ref t) = some (.list [p1, p2, .int b, .int a]) := by
    show (match st'[t]? with | some (.dct l) => shwD st' l | some (.lst l) => (optAll (shwE st') l).map PyData.list | none => none) = _
    rw [hq]
    dsimp only
    have e : optAll (shwE st') [d1, d2, .int b, .int a] = some [p1, p2, .int b, .int a] := by
      unfold optAll
      rw [s1 st' g]
      unfold optAll
      rw [s2 st' g]
      rfl
    rw [e]
    rfl
  have sh : (PyData.list [p1, p2, .int b, .int a]).showable = true := by
    have h1 := oa.sh
    have h2 := ob.sh
    generalize PyData.int a = pa at h1 ⊢
    generalize PyData.int b = pb at h2 ⊢
    simp [PyData.showable, PyData.showableAll, o1.sh, o2.sh, h1, h2]
  have dp : (PyData.list [p1, p2, .int b, .int a]).depth ≤ 62 := by
    have h1 := oa.dp
    have h2 := ob.dp
    have h3 := o1.dp
    have h4 := o2.dp
    generalize PyData.int a = pa at h1 ⊢
    generalize PyData.int b = pb at h2 ⊢
    simp only [PyData.depth, PyData.depthAll]
    omega
  have lv : (PyData.list [p1, p2, .int b, .int a]).leavesShort 100 = true := by
    have h1 := oa.lv
    have h2 := ob.lv
    generalize PyData.int a = pa at h1 ⊢
    generalize PyData.int b = pb at h2 ⊢
    simp [PyData.leavesShort, PyData.leavesShortAll, o1.lv, o2.lv, h1, h2]
  have wt : (PyData.list [p1, p2, .int b, .int a]).weight ≤ 8010 := by
    have h1 := oa.wt
    have h2 := ob.wt
    have h3 := o1.wt
    have h4 := o2.wt
    generalize PyData.int a = pa at h1 ⊢
    generalize PyData.int b = pb at h2 ⊢
    simp only [PyData.weight, PyData.weightAll]
    omega
  have sz : (PyData.list [p1, p2, .int b, .int a]).shown.length ≤ sizeLine := by
    have := PyData.shown_le 100 (by omega) _ lv
    rw [sizeLine_eq]
    omega
  show (match shw st' (.ref t) with | some p => if p.showable ∧ p.depth ≤ 62 ∧ p.shown.length ≤ sizeLine then some (D.str p.shown, st') else none | none => none) = _
  rw [hs]
  dsimp only
  rw [if_pos ⟨sh, dp, sz⟩]
/-! ### the classes that keep a value -/
theorem rows4 : ∀ i : Fin 4, row (names[12 + i.1]'(by show _ < 16; omega)) = (List.range 16).map fun a => decide (((a : Nat) : Int) = 12 + (i.1 : Int)) := by decide +kernel
def due (i : Nat) : List Int := match i with
  | 0 => [2, 6]
  | 1 => [3, 6]
  | 2 => [4, 5]
  | _ => [6]
theorem based4 : ∀ i : Fin 4, based (names[12 + i.1]'(by show _ < 16; omega)) = (List.range 7).map fun a => decide (((a : Nat) : Int) ∈ due i.1) := by decide +kernel
def made4 (d1 d2 : D) (a b : Int) : List D := [.exc "InvalidNumber" [("value", d1)], .exc "UnknownName" [("name", d2)], .exc "TooMany" [("limit", .int b)], .exc "NothingToUndo" [("many", .int a)]]
theorem made4_at (d1 d2 : D) (a b : Int) (i : Nat) (hi : i < 4) : ∃ fs, (made4 d1 d2 a b)[i]? = some (.exc (names[12 + i]'(by show _ < 16; omega)) fs) := by
  match i, hi with
  | 0, _ => exact ⟨_, rfl⟩
  | 1, _ => exact ⟨_, rfl⟩
  | 2, _ => exact ⟨_, rfl⟩
  | 3, _ => exact ⟨_, rfl⟩
theorem ok_body4 (n : Nat) (hn : 3 ≤ n) {st : Store} {e0 e1 e2 e3 e5 e8 : Option D} {d1 d2 : D} {a b : Int} {j q : Nat} (hj : listAt st j = some (made4 d1 d2 a b)) (i : Nat) (hi : i < 4)
    (hq : listAt st q = some ((List.range 4).map fun a => D.ref (q - 4 + a))) (hd : ∀ a < 4, listAt st (q - 4 + a) = some ((due a).map D.int)) :
    ∃ more, (sB [sIf (tCmp .NotEq (cCall (run T (n + 3)) "_law_classes" 1 [cIx (cV 4) (cV 7)]) (cComp (wRng [cK (.int 16)]) (tg1 8) (tTrue) (cCmp .Eq (cV 8) (cBin .Add (cK (.int 12)) (cV 7))) [8])) (sB [sRet (cK (.bl false))]) (sB []), sIf (tCmp .NotEq (cCall (run T (n + 3)) "_law_bases" 1 [cIx (cV 4) (cV 7)]) (cComp (wRng [cK (.int 7)]) (tg1 8) (tTrue) (cCmp .In (cV 8) (cIx (cV 6) (cV 7))) [8])) (sB [sRet (cK (.bl false))]) (sB [])]) [e0, e1, e2, e3, some (.ref j), e5, some (.ref q), some (.int (i : Int)), e8] st =
      .ok (.nx, [e0, e1, e2, e3, some (.ref j), e5, some (.ref q), some (.int (i : Int)), e8]) (st ++ more) := by
  have hk := known ⟨12 + i, by omega⟩
  obtain ⟨fs, hat⟩ := made4_at d1 d2 a b i hi
  obtain ⟨j2, m2, x2, l2⟩ := classes_ok (n + 3) (by omega) (st := st) (fs := fs) hk
  have c1 := call_at (n + 3) (f := "_law_classes") (a := 4) (b := 7) (env := [e0, e1, e2, e3, some (.ref j), e5, some (.ref q), some (.int (i : Int)), e8]) rfl rfl hj hat x2
  have c2 := comp_rng 16 (by omega) 8 (cCmp .Eq (cV 8) (cBin .Add (cK (.int 12)) (cV 7))) (fun a => decide (((a : Nat) : Int) = 12 + (i : Int))) (env := [e0, e1, e2, e3, some (.ref j), e5, some (.ref q), some (.int (i : Int)), e8]) (st := st ++ m2) fun a _ => by simp [wipeE]
  have s1 := if_alike (S := sB [sRet (cK (.bl false))]) c1 c2 (listAt_old l2) (by rw [listAt_app0, listAt_0, rows4 ⟨i, hi⟩])
  generalize hU : (st ++ m2) ++ [Ob.lst (((List.range 16).map fun a => decide (((a : Nat) : Int) = 12 + (i : Int))).map D.bl)] = U at s1
  have up : ∀ {k : Nat} {l : List D}, listAt st k = some l → listAt U k = some l := fun h => by rw [← hU]; exact listAt_old (listAt_old h)
  obtain ⟨j3, m3, x3, l3⟩ := bases_ok (n + 3) (by omega) (st := U) (fs := fs) hk
  have c3 := call_at (n + 3) (f := "_law_bases") (a := 4) (b := 7) (env := [e0, e1, e2, e3, some (.ref j), e5, some (.ref q), some (.int (i : Int)), e8]) rfl rfl (up hj) hat x3
  have c4 := comp_rng 7 (by omega) 8 (cCmp .In (cV 8) (cIx (cV 6) (cV 7))) (fun a => decide (((a : Nat) : Int) ∈ due i)) (env := [e0, e1, e2, e3, some (.ref j), e5, some (.ref q), some (.int (i : Int)), e8]) (st := U ++ m3) fun a _ => by
    have h1 := listAt_old (l := m3) (up hq)
    have h2 := listAt_old (l := m3) (up (hd i hi))
    have h3 : L2.atI ((List.range 4).map fun a => D.ref (q - 4 + a)) (i : Int) = some (.ref (q - 4 + i)) := by
      rw [atI_nat rfl (by simpa using hi), List.getElem?_map, List.getElem?_range hi]
      rfl
    simp [wipeE, h1, h3, in_ints h2]
  have s2 := if_alike (S := sB [sRet (cK (.bl false))]) c3 c4 (listAt_old (by rw [l3, based4 ⟨i, hi⟩])) (by rw [listAt_app0, listAt_0])
  refine ⟨m2 ++ ([Ob.lst (((List.range 16).map fun a => decide (((a : Nat) : Int) = 12 + (i : Int))).map D.bl)] ++ (m3 ++ [Ob.lst (((List.range 7).map fun a => decide (((a : Nat) : Int) ∈ due i)).map D.bl)])), ?_⟩
  refine (sB_nx s1).trans ?_
  refine (sB_nx s2).trans ?_
  rw [sB_nil, ← hU]
  simp only [List.append_assoc]
theorem rng4 : rngL 0 4 = (List.range 4).map fun (a : Nat) => D.int (a : Int) := by
  unfold rngL
  refine List.map_congr_left fun a _ => ?_
  rw [Int.zero_add]
theorem values_ok (m : Nat) (hm : 11 ≤ m) {k : Nat} {st : Store} {d1 d2 : D} {a b : Int} (s1 : Shown k st d1) (s2 : Shown k st d2) (ha : a.natAbs < 10 ^ 30) (hb : b.natAbs < 10 ^ 30) :
    ∃ more, (run T m).call "_law_values_right" [d1, d2, .int a, .int b] st = .ok (.bl true) (st ++ more) := by
  obtain ⟨n, rfl⟩ := Nat.exists_eq_add_of_le' hm
  have e0 := e_law_values_right (n + 3)
  obtain ⟨p1, o1, s1⟩ := s1
  obtain ⟨p2, o2, s2⟩ := s2
  have t1 : ∀ d, attrD T (.exc "InvalidNumber" [("value", d)]) "value" = some d := fun d => attr_exc (by decide +kernel)
  have t2 : ∀ d, attrD T (.exc "UnknownName" [("name", d)]) "name" = some d := fun d => attr_exc (by decide +kernel)
  have t3 : ∀ d, attrD T (.exc "TooMany" [("limit", d)]) "limit" = some d := fun d => attr_exc (by decide +kernel)
  have t4 : ∀ d, attrD T (.exc "NothingToUndo" [("many", d)]) "many" = some d := fun d => attr_exc (by decide +kernel)
  have a0 : s_law_values_right_0 (n + 3) (Nd.start ["kept", "word", "number", "limit", "made", "told", "due", "at", "place"] [d1, d2, .int a, .int b]) st = .ok (.nx, [some d1, some d2, some (.int a), some (.int b), some (.ref st.length), none, none, none, none]) (st ++ [.lst (made4 d1 d2 a b)]) := by
    unfold s_law_values_right_0
    simp [Nd.start, sizeLine_eq, made4]
  have a1 : s_law_values_right_1 (n + 3) [some d1, some d2, some (.int a), some (.int b), some (.ref st.length), none, none, none, none] (st ++ [.lst (made4 d1 d2 a b)]) = .ok (.nx, [some d1, some d2, some (.int a), some (.int b), some (.ref st.length), some (.ref (st.length + 1)), none, none, none]) (st ++ [.lst (made4 d1 d2 a b), .lst [d1, d2, .int b, .int a]]) := by
    unfold s_law_values_right_1
    simp [sizeLine_eq, made4, L2.atI, L2.ixN, t1, t2, t3, t4]
  have r1 := repr4 (k := k) (st := st) (st' := st ++ [.lst (made4 d1 d2 a b), .lst [d1, d2, .int b, .int a]]) (t := st.length + 1) Keep.app o1 s1 o2 s2 ha hb (by rw [listAt_app]; rfl)
  have r2 := repr4 (k := k) (st := st) (st' := st ++ [.lst (made4 d1 d2 a b), .lst [d1, d2, .int b, .int a], .lst [d1, d2, .int b, .int a]]) (t := st.length + 2) Keep.app o1 s1 o2 s2 ha hb (by rw [listAt_app]; rfl)
  have a2 : s_law_values_right_2 (n + 3) [some d1, some d2, some (.int a), some (.int b), some (.ref st.length), some (.ref (st.length + 1)), none, none, none] (st ++ [.lst (made4 d1 d2 a b), .lst [d1, d2, .int b, .int a]]) =
      .ok (.nx, [some d1, some d2, some (.int a), some (.int b), some (.ref st.length), some (.ref (st.length + 1)), none, none, none]) (st ++ [.lst (made4 d1 d2 a b), .lst [d1, d2, .int b, .int a], .lst [d1, d2, .int b, .int a]]) := by
    unfold s_law_values_right_2
    simp [sizeLine_eq, r1, r2]
  have a3 : s_law_values_right_3 (n + 3) [some d1, some d2, some (.int a), some (.int b), some (.ref st.length), some (.ref (st.length + 1)), none, none, none] (st ++ [.lst (made4 d1 d2 a b), .lst [d1, d2, .int b, .int a], .lst [d1, d2, .int b, .int a]]) =
      .ok (.nx, [some d1, some d2, some (.int a), some (.int b), some (.ref st.length), some (.ref (st.length + 1)), some (.ref (st.length + 7)), none, none]) (st ++ [.lst (made4 d1 d2 a b), .lst [d1, d2, .int b, .int a], .lst [d1, d2, .int b, .int a],
        .lst [.int 2, .int 6], .lst [.int 3, .int 6], .lst [.int 4, .int 5], .lst [.int 6], .lst [.ref (st.length + 3), .ref (st.length + 4), .ref (st.length + 5), .ref (st.length + 6)]]) := by
    unfold s_law_values_right_3
    simp [sizeLine_eq]
  generalize hm0 : [Ob.lst (made4 d1 d2 a b), .lst [d1, d2, .int b, .int a], .lst [d1, d2, .int b, .int a], .lst [.int 2, .int 6], .lst [.int 3, .int 6], .lst [.int 4, .int 5], .lst [.int 6], .lst [.ref (st.length + 3), .ref (st.length + 4), .ref (st.length + 5), .ref (st.length + 6)]] = m0 at a3
  have g0 : listAt (st ++ m0) st.length = some (made4 d1 d2 a b) := by rw [listAt_app0, ← hm0]; rfl
  have gq : listAt (st ++ m0) (st.length + 7) = some ((List.range 4).map fun a => D.ref (st.length + 7 - 4 + a)) := by rw [listAt_app, ← hm0]; rfl
  have gd : ∀ a < 4, listAt (st ++ m0) (st.length + 7 - 4 + a) = some ((due a).map D.int) := fun a h => by
    rw [show st.length + 7 - 4 + a = st.length + (3 + a) by omega, listAt_app, ← hm0]
    match a, h with
    | 0, _ => rfl
    | 1, _ => rfl
    | 2, _ => rfl
    | 3, _ => rfl
  have a4 : ∃ x y more, s_law_values_right_4 (n + 3) [some d1, some d2, some (.int a), some (.int b), some (.ref st.length), some (.ref (st.length + 1)), some (.ref (st.length + 7)), none, none] (st ++ m0) = .ok (.nx, [some d1, some d2, some (.int a), some (.int b), some (.ref st.length), some (.ref (st.length + 1)), some (.ref (st.length + 7)), x, y]) (st ++ more) := by
    unfold s_law_values_right_4
    have q := forItems_inv (tg := tg1 7) (body := sB [sIf (tCmp .NotEq (cCall (run T (n + 3 + 3)) "_law_classes" 1 [cIx (cV 4) (cV 7)]) (cComp (wRng [cK (.int 16)]) (tg1 8) (tTrue) (cCmp .Eq (cV 8) (cBin .Add (cK (.int 12)) (cV 7))) [8])) (sB [sRet (cK (.bl false))]) (sB []), sIf (tCmp .NotEq (cCall (run T (n + 3 + 3)) "_law_bases" 1 [cIx (cV 4) (cV 7)]) (cComp (wRng [cK (.int 7)]) (tg1 8) (tTrue) (cCmp .In (cV 8) (cIx (cV 6) (cV 7))) [8])) (sB [sRet (cK (.bl false))]) (sB [])])
      (P := fun env s2 => ∃ x y more, env = [some d1, some d2, some (.int a), some (.int b), some (.ref st.length), some (.ref (st.length + 1)), some (.ref (st.length + 7)), x, y] ∧ s2 = (st ++ m0) ++ more) (rngL 0 4) (fun d hd env s2 ⟨x, y, more, h1, h2⟩ => by
        rw [rng4] at hd
        obtain ⟨i, hi, rfl⟩ := List.mem_map.mp hd
        subst h1 h2
        refine ⟨[some d1, some d2, some (.int a), some (.int b), some (.ref st.length), some (.ref (st.length + 1)), some (.ref (st.length + 7)), some (.int (i : Int)), y], rfl, ?_⟩
        obtain ⟨m2, h2⟩ := ok_body4 (n + 3) (by omega) (e0 := some d1) (e1 := some d2) (e2 := some (.int a)) (e3 := some (.int b)) (e5 := some (.ref (st.length + 1))) (e8 := y) (listAt_old (l := more) g0) i (by simpa using hi) (listAt_old gq) (fun a h => listAt_old (gd a h))
        exact ⟨_, _, h2, some (.int (i : Int)), y, more ++ m2, rfl, by rw [List.append_assoc]⟩) [some d1, some d2, some (.int a), some (.int b), some (.ref st.length), some (.ref (st.length + 1)), some (.ref (st.length + 7)), none, none] (st ++ m0) ⟨none, none, [], rfl, by simp⟩
    obtain ⟨env', st', h1, x, y, more, rfl, rfl⟩ := q
    refine ⟨x, y, m0 ++ more, ?_⟩
    rw [sFor_E, wRng_E, cArgs_cons, cK_E, bind_okE, cArgs_nil, bind_okE, bind_okE, rngW_1, if_pos (by decide +kernel), owk_some, bind_okE, ← List.append_assoc]
    exact h1
  obtain ⟨x, y, more, a4⟩ := a4
  refine ⟨more, ?_⟩
  rw [e0]
  unfold c_law_values_right
  have a5 : s_law_values_right_5 (n + 3) [some d1, some d2, some (.int a), some (.int b), some (.ref st.length), some (.ref (st.length + 1)), some (.ref (st.length + 7)), x, y] (st ++ more) = .ok (.rt (.bl true), [some d1, some d2, some (.int a), some (.int b), some (.ref st.length), some (.ref (st.length + 1)), some (.ref (st.length + 7)), x, y]) (st ++ more) := rfl
  exact fnC_rt rfl ((sB_nx a0).trans ((sB_nx a1).trans ((sB_nx a2).trans ((sB_nx a3).trans ((sB_nx a4).trans (sB_rt a5))))))
end K00
end

section
set_option Elab.async false
set_option linter.all false
set_option maxRecDepth 100000
namespace K00
open PySem Nd
theorem if_true_not {e : CE} {env : Nd.Env} {st st' : Store} {S : CS} (h : e env st = .ok (.bl true) st') : sIf (tNot (tOf e)) S (sB []) env st = .ok (.nx, env) st' := by
  rw [sIf_E, tNot_E, tOf_E, h]
  rfl
theorem Dice.keep {k : Nat} {st more : Store} (h : Dice st k) : Dice (st ++ more) k := by
  obtain ⟨a, b, c, h⟩ := h
  exact ⟨a, b, c, listAt_old h⟩
theorem law_body (n : Nat) (hn : 20 ≤ n) (ns : List Int) (i : Nat) {st : Store} {e2 e3 e4 e5 : Option D} :
    ∃ x2 x3 x4 x5 st', sB [sAsg 2 (cCall (run T (n + 4)) "_law_dice" 2 [cV 0, cV 1]), sAsg 3 (cCall (run T (n + 4)) "_law_pick" 2 [cV 2, cLst [cK (.str ""), cK (.str "text"), cK (.str "two words"), cBin .Mult (cK (.str "x")) (cK (.int 300))]]), sPar 4 5 (cCall (run T (n + 4)) "_law_value" 1 [cV 2]) (cCall (run T (n + 4)) "_law_value" 1 [cV 2]), sIf (tNot (tOf (cCall (run T (n + 2)) "_law_messages_right" 1 [cV 3]))) (sB [sRet (cK (.bl false))]) (sB []), sIf (tNot (tOf (cCall (run T (n + 2)) "_law_values_right" 4 [cV 4, cV 5, cCall (run T (n + 1)) "_law_pull" 2 [cV 2, cK (.int 2001)], cCall (run T (n + 1)) "_law_pull" 2 [cV 2, cK (.int 100)]]))) (sB [sRet (cK (.bl false))]) (sB [])] [some (.fro (ns.map .int)), some (.int (i : Int)), e2, e3, e4, e5] st = .ok (.nx, [some (.fro (ns.map .int)), some (.int (i : Int)), x2, x3, x4, x5]) st' := by
  obtain ⟨a, b, h0⟩ := dice_ok (n + 4) (by omega) (st := st) ns i
  generalize hk : st.length = k at h0
  generalize hs1 : st ++ [Ob.lst [.int a, .int b, .int 0]] = s1 at h0
  have d1 : Dice s1 k := ⟨a, b, 0, by rw [← hs1, ← hk, listAt_app0, listAt_0]⟩
  have l1 : k < s1.length := by rw [← hs1, ← hk]; simp
  have b0 : sAsg 2 (cCall (run T (n + 4)) "_law_dice" 2 [cV 0, cV 1]) [some (.fro (ns.map .int)), some (.int (i : Int)), e2, e3, e4, e5] st = .ok (.nx, [some (.fro (ns.map .int)), some (.int (i : Int)), some (.ref k), e3, e4, e5]) s1 := by
    simp [h0]
  have hx : ∀ st, binop .Mult (.str "x") (.int 300) st = some (.str (repS "x" 300), st) := fun st => by
    show (if 0 ≤ (300 : Int) ∧ ("x" : Str).length * (300 : Int).toNat ≤ 2 ^ 20 ∧ (300 : Int) < 2 ^ 20 then some (D.str (repS "x" (300 : Int).toNat), st) else none) = _
    rw [if_pos (by decide +kernel)]
    rfl
  have d2 : Dice (s1 ++ [Ob.lst [.str "", .str "text", .str "two words", .str (repS "x" 300)]]) k := d1.keep
  obtain ⟨w, l3, _, h3, d3⟩ := pick_ref (n + 4) (by omega) (j := s1.length) d2 (by rw [listAt_app0, listAt_0]) (by omega) (by simp) (by simp)
  have b1 : sAsg 3 (cCall (run T (n + 4)) "_law_pick" 2 [cV 2, cLst [cK (.str ""), cK (.str "text"), cK (.str "two words"), cBin .Mult (cK (.str "x")) (cK (.int 300))]]) [some (.fro (ns.map .int)), some (.int (i : Int)), some (.ref k), e3, e4, e5] s1 = .ok (.nx, [some (.fro (ns.map .int)), some (.int (i : Int)), some (.ref k), some w, e4, e5]) ((s1 ++ [Ob.lst [.str "", .str "text", .str "two words", .str (repS "x" 300)]]).set k (.lst l3)) := by
    simp [hx, sizeLine_eq, h3]
  generalize hs3 : (s1 ++ [Ob.lst [.str "", .str "text", .str "two words", .str (repS "x" 300)]]).set k (.lst l3) = s3 at b1 d3
  have l3' : k < s3.length := by rw [← hs3]; simp; omega
  obtain ⟨v1, s4, h4, d4, k4, w4⟩ := value_ok (n + 4) (by omega) d3 l3'
  have l4 : k < s4.length := by have := k4.1; omega
  obtain ⟨v2, s5, h5, d5, k5, w5⟩ := value_ok (n + 4) (by omega) d4 l4
  have l5 : k < s5.length := by have := k5.1; omega
  have b2 : sPar 4 5 (cCall (run T (n + 4)) "_law_value" 1 [cV 2]) (cCall (run T (n + 4)) "_law_value" 1 [cV 2]) [some (.fro (ns.map .int)), some (.int (i : Int)), some (.ref k), some w, e4, e5] s3 = .ok (.nx, [some (.fro (ns.map .int)), some (.int (i : Int)), some (.ref k), some w, some v1, some v2]) s5 := by
    simp [h4, h5]
  obtain ⟨m6, h6⟩ := messages_ok (n + 2) (by omega) (st := s5) (w := w)
  have b3 := if_true_not (e := cCall (run T (n + 2)) "_law_messages_right" 1 [cV 3]) (env := [some (.fro (ns.map .int)), some (.int (i : Int)), some (.ref k), some w, some v1, some v2]) (st := s5) (st' := s5 ++ m6) (S := sB [sRet (cK (.bl false))]) (by simp [h6])
  obtain ⟨x7, l7, h7, p0, p1, d7⟩ := pull_ok (n + 1) (by omega) (t := 2001) (d5.keep (more := m6)) (by omega) (by omega)
  have k7 : Keep k (s5 ++ m6) ((s5 ++ m6).set k (.lst l7)) := Keep.set
  obtain ⟨x8, l8, h8, q0, q1, d8⟩ := pull_ok (n + 1) (by omega) (t := 100) d7 (by omega) (by omega)
  have k8 : Keep k ((s5 ++ m6).set k (.lst l7)) (((s5 ++ m6).set k (.lst l7)).set k (.lst l8)) := Keep.set
  have kk := (Keep.app (k := k) (st := s5) (more := m6)).trans (k7.trans k8)
  obtain ⟨m9, h9⟩ := values_ok (n + 2) (by omega) (k := k) (a := x7) (b := x8) ((w4.keep k5).keep kk) (w5.keep kk) (by omega) (by omega)
  have b4 := if_true_not (e := cCall (run T (n + 2)) "_law_values_right" 4 [cV 4, cV 5, cCall (run T (n + 1)) "_law_pull" 2 [cV 2, cK (.int 2001)], cCall (run T (n + 1)) "_law_pull" 2 [cV 2, cK (.int 100)]]) (env := [some (.fro (ns.map .int)), some (.int (i : Int)), some (.ref k), some w, some v1, some v2]) (st := s5 ++ m6) (S := sB [sRet (cK (.bl false))]) (by
    rw [cCall_E]
    simp only [cArgs_cons, cArgs_nil, cV_E, List.getElem?_cons_zero, List.getElem?_cons_succ, Option.join_some, ret_someE, bind_okE, cCall_E, cK_E, List.length_cons, List.length_nil, Nat.zero_add, Nat.reduceAdd, if_true, h7, h8]
    exact h9)
  exact ⟨_, _, _, _, _, (sB_nx b0).trans ((sB_nx b1).trans ((sB_nx b2).trans ((sB_nx b3).trans (sB_nx b4))))⟩
theorem law_ok (m : Nat) (hm : 28 ≤ m) (ns : List Int) {st : Store} : ∃ st', (run T m).call "law" [.fro (ns.map .int)] st = .ok (.bl true) st' := by
  obtain ⟨n, rfl⟩ := Nat.exists_eq_add_of_le' hm
  have e0 := e_law (n + 20)
  have ht : ∃ t : Nat, t ≤ 6 ∧ wRng [cBlt maxD [cK (.int 1), cBlt minD [cK (.int 6), cBlt lenD [cV 0]]]] (Nd.start ["script", "at", "dice", "word", "kept", "name"] [.fro (ns.map .int)]) st = .ok (.items (rngL 0 t)) st := by
    have key : ∀ z : Int, 1 ≤ z → z ≤ 6 → owk (rngW [.int z]) st = .ok (.items (rngL 0 z.toNat)) st := fun z h1 h2 => by
      have hr : rngOk z = true := by
        unfold rngOk
        rw [decide_eq_true (by omega), decide_eq_true (by omega)]
        rfl
      rw [rngW_1, if_pos hr, owk_some]
    have e : wRng [cBlt maxD [cK (.int 1), cBlt minD [cK (.int 6), cBlt lenD [cV 0]]]] (Nd.start ["script", "at", "dice", "word", "kept", "name"] [.fro (ns.map .int)]) st = owk (rngW [.int (if (if (ns.length : Int) < 6 then (ns.length : Int) else 6) > 1 then (if (ns.length : Int) < 6 then (ns.length : Int) else 6) else 1)]) st := by
      rw [wRng_E]
      simp [Nd.start]
    rw [e]
    refine ⟨_, ?_, key _ ?_ ?_⟩ <;> (split <;> split <;> omega)
  obtain ⟨t, ht6, ht⟩ := ht
  have h0 : ∃ x1 x2 x3 x4 x5 st', s_law_0 (n + 20) (Nd.start ["script", "at", "dice", "word", "kept", "name"] [.fro (ns.map .int)]) st = .ok (.nx, [some (.fro (ns.map .int)), x1, x2, x3, x4, x5]) st' := by
    unfold s_law_0
    have q := forItems_inv (tg := tg1 1) (body := sB [sAsg 2 (cCall (run T (n + 20 + 4)) "_law_dice" 2 [cV 0, cV 1]), sAsg 3 (cCall (run T (n + 20 + 4)) "_law_pick" 2 [cV 2, cLst [cK (.str ""), cK (.str "text"), cK (.str "two words"), cBin .Mult (cK (.str "x")) (cK (.int 300))]]), sPar 4 5 (cCall (run T (n + 20 + 4)) "_law_value" 1 [cV 2]) (cCall (run T (n + 20 + 4)) "_law_value" 1 [cV 2]), sIf (tNot (tOf (cCall (run T (n + 20 + 2)) "_law_messages_right" 1 [cV 3]))) (sB [sRet (cK (.bl false))]) (sB []), sIf (tNot (tOf (cCall (run T (n + 20 + 2)) "_law_values_right" 4 [cV 4, cV 5, cCall (run T (n + 20 + 1)) "_law_pull" 2 [cV 2, cK (.int 2001)], cCall (run T (n + 20 + 1)) "_law_pull" 2 [cV 2, cK (.int 100)]]))) (sB [sRet (cK (.bl false))]) (sB [])])
      (P := fun env _ => ∃ x1 x2 x3 x4 x5, env = [some (.fro (ns.map .int)), x1, x2, x3, x4, x5]) (rngL 0 t) (fun d hd env s2 ⟨x1, x2, x3, x4, x5, h1⟩ => by
        subst h1
        unfold rngL at hd
        obtain ⟨i, hi, rfl⟩ := List.mem_map.mp hd
        refine ⟨[some (.fro (ns.map .int)), some (.int (i : Int)), x2, x3, x4, x5], by rw [Int.zero_add]; rfl, ?_⟩
        obtain ⟨y2, y3, y4, y5, st2, h2⟩ := law_body (n + 20) (by omega) ns i (st := s2) (e2 := x2) (e3 := x3) (e4 := x4) (e5 := x5)
        exact ⟨_, _, h2, some (.int (i : Int)), y2, y3, y4, y5, rfl⟩) (Nd.start ["script", "at", "dice", "word", "kept", "name"] [.fro (ns.map .int)]) st ⟨none, none, none, none, none, rfl⟩
    obtain ⟨env', st', h1, x1, x2, x3, x4, x5, rfl⟩ := q
    refine ⟨x1, x2, x3, x4, x5, st', ?_⟩
    rw [sFor_E, ht, bind_okE]
    exact h1
  obtain ⟨x1, x2, x3, x4, x5, st', h0⟩ := h0
  have h1 : s_law_1 (n + 20) [some (.fro (ns.map .int)), x1, x2, x3, x4, x5] st' = .ok (.rt (.bl true), [some (.fro (ns.map .int)), x1, x2, x3, x4, x5]) st' := rfl
  refine ⟨st', ?_⟩
  rw [e0]
  unfold c_law
  exact fnC_rt rfl ((sB_nx h0).trans (sB_rt h1))
end K00
end

section
set_option Elab.async false
set_option linter.all false
set_option maxRecDepth 100000
set_option maxHeartbeats 4000000
namespace K00
open PySem PySem.Spec PyProof.Rows L2 Nd
theorem sc_law_dice : FnScope ["script", "at", "cell", "great", "mixed"] ["script", "at"] (defScope (top 19)) := ⟨rfl, rfl, rfl, by decide +kernel, rfl, by decide +kernel, by decide +kernel⟩
theorem bd_law_dice {K : PySem.W.Frag} {f : Addr} {fd : FuncData} (F : Fun K "_law_dice" "_law_dice" (top 19) f fd) : Binds K fd ["script", "at"] [] := F.binds (ps := ["script", "at"]) fun _ _ _ _ _ _ us hl => match us, hl with | [_, _], _ => rfl
theorem sc_law_pull : FnScope ["dice", "total", "found", "one", "two"] ["dice", "total"] (defScope (top 20)) := ⟨rfl, rfl, rfl, by decide +kernel, rfl, by decide +kernel, by decide +kernel⟩
theorem bd_law_pull {K : PySem.W.Frag} {f : Addr} {fd : FuncData} (F : Fun K "_law_pull" "_law_pull" (top 20) f fd) : Binds K fd ["dice", "total"] [] := F.binds (ps := ["dice", "total"]) fun _ _ _ _ _ _ us hl => match us, hl with | [_, _], _ => rfl
theorem sc_law_pick : FnScope ["dice", "items"] ["dice", "items"] (defScope (top 21)) := ⟨rfl, rfl, rfl, by decide +kernel, rfl, by decide +kernel, by decide +kernel⟩
theorem bd_law_pick {K : PySem.W.Frag} {f : Addr} {fd : FuncData} (F : Fun K "_law_pick" "_law_pick" (top 21) f fd) : Binds K fd ["dice", "items"] [] := F.binds (ps := ["dice", "items"]) fun _ _ _ _ _ _ us hl => match us, hl with | [_, _], _ => rfl
theorem sc_law_value : FnScope ["dice", "number", "found"] ["dice"] (defScope (top 22)) := ⟨rfl, rfl, rfl, by decide +kernel, rfl, by decide +kernel, by decide +kernel⟩
theorem bd_law_value {K : PySem.W.Frag} {f : Addr} {fd : FuncData} (F : Fun K "_law_value" "_law_value" (top 22) f fd) : Binds K fd ["dice"] [] := F.binds (ps := ["dice"]) fun _ _ _ _ _ _ us hl => match us, hl with | [_], _ => rfl
theorem sc_law_classes : FnScope ["error", "found"] ["error"] (defScope (top 23)) := ⟨rfl, rfl, rfl, by decide +kernel, rfl, by decide +kernel, by decide +kernel⟩
theorem bd_law_classes {K : PySem.W.Frag} {f : Addr} {fd : FuncData} (F : Fun K "_law_classes" "_law_classes" (top 23) f fd) : Binds K fd ["error"] [] := F.binds (ps := ["error"]) fun _ _ _ _ _ _ us hl => match us, hl with | [_], _ => rfl
theorem sc_law_bases : FnScope ["error", "found"] ["error"] (defScope (top 24)) := ⟨rfl, rfl, rfl, by decide +kernel, rfl, by decide +kernel, by decide +kernel⟩
theorem bd_law_bases {K : PySem.W.Frag} {f : Addr} {fd : FuncData} (F : Fun K "_law_bases" "_law_bases" (top 24) f fd) : Binds K fd ["error"] [] := F.binds (ps := ["error"]) fun _ _ _ _ _ _ us hl => match us, hl with | [_], _ => rfl
theorem sc_law_messages_right : FnScope ["text", "made", "at", "place"] ["text"] (defScope (top 25)) := ⟨rfl, rfl, rfl, by decide +kernel, rfl, by decide +kernel, by decide +kernel⟩
theorem bd_law_messages_right {K : PySem.W.Frag} {f : Addr} {fd : FuncData} (F : Fun K "_law_messages_right" "_law_messages_right" (top 25) f fd) : Binds K fd ["text"] [] := F.binds (ps := ["text"]) fun _ _ _ _ _ _ us hl => match us, hl with | [_], _ => rfl
theorem sc_law_values_right : FnScope ["kept", "word", "number", "limit", "made", "told", "due", "at", "place"] ["kept", "word", "number", "limit"] (defScope (top 26)) := ⟨rfl, rfl, rfl, by decide +kernel, rfl, by decide +kernel, by decide +kernel⟩
theorem bd_law_values_right {K : PySem.W.Frag} {f : Addr} {fd : FuncData} (F : Fun K "_law_values_right" "_law_values_right" (top 26) f fd) : Binds K fd ["kept", "word", "number", "limit"] [] := F.binds (ps := ["kept", "word", "number", "limit"]) fun _ _ _ _ _ _ us hl => match us, hl with | [_, _, _, _], _ => rfl
theorem sclaw : FnScope ["script", "at", "dice", "word", "kept", "name"] ["script"] (defScope (top 27)) := ⟨rfl, rfl, rfl, by decide +kernel, rfl, by decide +kernel, by decide +kernel⟩
theorem bdlaw {K : PySem.W.Frag} {f : Addr} {fd : FuncData} (F : Fun K "law" "law" (top 27) f fd) : Binds K fd ["script"] [] := F.binds (ps := ["script"]) fun _ _ _ _ _ _ us hl => match us, hl with | [_], _ => rfl
theorem fin {l : PySem.W.OpenLaw} {w : World} {K : PySem.W.Frag} {h : Heap} {mg : Str → Option Value} {fa : Addr} {n : Nat} (X : K.In h) (G : h.Ns mainGlobals mg) (hfa : mg "law" = some (.ref fa))
    (H : ∀ ns : List Int, ∃ st', (run T 100).call "law" [.fro (ns.map .int)] [] = .ok (.bl true) st') (fns : Nd.AllP (FnP K mg) fnT) (bl : bltB K blT = true) (su : PySem.W.nsIn K mainGlobals "super" = some none)
    (cls : ∃ GL : List (Str × Addr), (glT = GL.map (fun p => (p.1, D.glb p.1)) ∧ exT.map (·.1) = GL.map (·.1) ∧ (GL.all fun p => !(p.1 == ("__debug__" : Str))) = true) ∧ GlA K GL ∧ ExA T l.prog K GL exT GL) :
    ∃ fd : FuncData, (∀ (s : Shared) (v : Value), BindsTo s fd ⟨[v], []⟩ [("script", v)]) ∧ ∀ base : Heap, K.In base → base.Ns mainGlobals mg → FnG l.prog w K mg base (L2.CX l.prog w) 100 fa fd ["script"] (spLaw K n) := by
  obtain ⟨GL, ⟨e1, e2, e3⟩, A, E⟩ := cls
  exact end_mk (T := T) (F := ⟨"law", top 27, ["script"], ["script", "at", "dice", "word", "kept", "name"]⟩) X G hfa (glbOk_cls X G A e1 e3 bl) (funOk_mk fns) (exsOk_mk X G A e2 su E) rfl rfl (fun _ _ _ _ _ _ us hl => match us, hl with | [_], _ => rfl) H

theorem cls_mk {P : Program} {K : PySem.W.Frag} {C0 C1 C2 C3 C4 C5 C6 C7 C8 C9 C10 C11 C12 C13 C14 C15 C16 : Addr} (a0 : PySem.W.nsIn K mainGlobals "RowsError" = some (some (.ref C0))) (a1 : PySem.W.nsIn K mainGlobals "InvalidName" = some (some (.ref C1))) (a2 : PySem.W.nsIn K mainGlobals "InvalidCondition" = some (some (.ref C2))) (a3 : PySem.W.nsIn K mainGlobals "InvalidQuestion" = some (some (.ref C3))) (a4 : PySem.W.nsIn K mainGlobals "InvalidRow" = some (some (.ref C4))) (a5 : PySem.W.nsIn K mainGlobals "InvalidLog" = some (some (.ref C5))) (a6 : PySem.W.nsIn K mainGlobals "InvalidKind" = some (some (.ref C6))) (a7 : PySem.W.nsIn K mainGlobals "InvalidRest" = some (some (.ref C7))) (a8 : PySem.W.nsIn K mainGlobals "InvalidState" = some (some (.ref C8))) (a9 : PySem.W.nsIn K mainGlobals "InvalidMark" = some (some (.ref C9))) (a10 : PySem.W.nsIn K mainGlobals "InvalidOperation" = some (some (.ref C10))) (a11 : PySem.W.nsIn K mainGlobals "ParseError" = some (some (.ref C11))) (a12 : PySem.W.nsIn K mainGlobals "InvalidCommand" = some (some (.ref C12))) (a13 : PySem.W.nsIn K mainGlobals "InvalidNumber" = some (some (.ref C13))) (a14 : PySem.W.nsIn K mainGlobals "UnknownName" = some (some (.ref C14))) (a15 : PySem.W.nsIn K mainGlobals "TooMany" = some (some (.ref C15))) (a16 : PySem.W.nsIn K mainGlobals "NothingToUndo" = some (some (.ref C16)))
    (rest : ExA T P K [("RowsError", C0), ("InvalidName", C1), ("InvalidCondition", C2), ("InvalidQuestion", C3), ("InvalidRow", C4), ("InvalidLog", C5), ("InvalidKind", C6), ("InvalidRest", C7), ("InvalidState", C8), ("InvalidMark", C9), ("InvalidOperation", C10), ("ParseError", C11), ("InvalidCommand", C12), ("InvalidNumber", C13), ("UnknownName", C14), ("TooMany", C15), ("NothingToUndo", C16)] exT [("RowsError", C0), ("InvalidName", C1), ("InvalidCondition", C2), ("InvalidQuestion", C3), ("InvalidRow", C4), ("InvalidLog", C5), ("InvalidKind", C6), ("InvalidRest", C7), ("InvalidState", C8), ("InvalidMark", C9), ("InvalidOperation", C10), ("ParseError", C11), ("InvalidCommand", C12), ("InvalidNumber", C13), ("UnknownName", C14), ("TooMany", C15), ("NothingToUndo", C16)]) :
    ∃ GL : List (Str × Addr), (glT = GL.map (fun p => (p.1, D.glb p.1)) ∧ exT.map (·.1) = GL.map (·.1) ∧ (GL.all fun p => !(p.1 == ("__debug__" : Str))) = true) ∧ GlA K GL ∧ ExA T P K GL exT GL :=
  ⟨[("RowsError", C0), ("InvalidName", C1), ("InvalidCondition", C2), ("InvalidQuestion", C3), ("InvalidRow", C4), ("InvalidLog", C5), ("InvalidKind", C6), ("InvalidRest", C7), ("InvalidState", C8), ("InvalidMark", C9), ("InvalidOperation", C10), ("ParseError", C11), ("InvalidCommand", C12), ("InvalidNumber", C13), ("UnknownName", C14), ("TooMany", C15), ("NothingToUndo", C16)], ⟨rfl, rfl, rfl⟩, ⟨a0, a1, a2, a3, a4, a5, a6, a7, a8, a9, a10, a11, a12, a13, a14, a15, a16, True.intro⟩, rest⟩
end K00
end

section
open PySem PySem.W PyProof.Rows
set_option Elab.async false
set_option linter.all false
set_option maxRecDepth 100000 in
set_option maxHeartbeats 0 in
theorem PySem.Challenge.cw_needrows_k00_errors_holds : PySem.Challenge.rw_needrows_k00_errors.Holds := by
  w_on; o_law; k_head; (case hw => w_witness2)
  k_fill
  refine Nd.walkG (l := PySem.Challenge.rw_needrows_k00_errors) (n := 63) (k := 100) (x := "script") rfl (by decide) rfl ⟨rfl, by decide, by decide⟩ (fun w h Y => PySem.W.kIn_of Y) ?F
  case F =>
    intro w mg fa h KX G hmg
    refine' K00.fin KX G hmg (fun ns => K00.law_ok 100 (by decide) ns) ?fns ?bl ?su ?cls
    (case bl => kernel_rfl); (case su => k_is)
    case fns =>
      refine' ⟨Nd.fn_at KX G rfl rfl K00.sc_law_dice (fun _ F => K00.bd_law_dice F) ?u_a ?u_l ?u_c ?u_k, ?z0⟩
      (case u_a => k_is); (case u_l => k_is); (case u_c => k_is); (case u_k => k_is)
      case z0 =>
      refine' ⟨Nd.fn_at KX G rfl rfl K00.sc_law_pull (fun _ F => K00.bd_law_pull F) ?u_a ?u_l ?u_c ?u_k, ?z1⟩
      (case u_a => k_is); (case u_l => k_is); (case u_c => k_is); (case u_k => k_is)
      case z1 =>
      refine' ⟨Nd.fn_at KX G rfl rfl K00.sc_law_pick (fun _ F => K00.bd_law_pick F) ?u_a ?u_l ?u_c ?u_k, ?z2⟩
      (case u_a => k_is); (case u_l => k_is); (case u_c => k_is); (case u_k => k_is)
      case z2 =>
      refine' ⟨Nd.fn_at KX G rfl rfl K00.sc_law_value (fun _ F => K00.bd_law_value F) ?u_a ?u_l ?u_c ?u_k, ?z3⟩
      (case u_a => k_is); (case u_l => k_is); (case u_c => k_is); (case u_k => k_is)
      case z3 =>
      refine' ⟨Nd.fn_at KX G rfl rfl K00.sc_law_classes (fun _ F => K00.bd_law_classes F) ?u_a ?u_l ?u_c ?u_k, ?z4⟩
      (case u_a => k_is); (case u_l => k_is); (case u_c => k_is); (case u_k => k_is)
      case z4 =>
      refine' ⟨Nd.fn_at KX G rfl rfl K00.sc_law_bases (fun _ F => K00.bd_law_bases F) ?u_a ?u_l ?u_c ?u_k, ?z5⟩
      (case u_a => k_is); (case u_l => k_is); (case u_c => k_is); (case u_k => k_is)
      case z5 =>
      refine' ⟨Nd.fn_at KX G rfl rfl K00.sc_law_messages_right (fun _ F => K00.bd_law_messages_right F) ?u_a ?u_l ?u_c ?u_k, ?z6⟩
      (case u_a => k_is); (case u_l => k_is); (case u_c => k_is); (case u_k => k_is)
      case z6 =>
      refine' ⟨Nd.fn_at KX G rfl rfl K00.sc_law_values_right (fun _ F => K00.bd_law_values_right F) ?u_a ?u_l ?u_c ?u_k, ?z7⟩
      (case u_a => k_is); (case u_l => k_is); (case u_c => k_is); (case u_k => k_is)
      case z7 =>
      refine' ⟨Nd.fn_at KX G rfl rfl K00.sclaw (fun _ F => K00.bdlaw F) ?u_a ?u_l ?u_c ?u_k, ?z8⟩
      (case u_a => k_is); (case u_l => k_is); (case u_c => k_is); (case u_k => k_is)
      case z8 =>
      exact True.intro
    case cls =>
      refine' K00.cls_mk ?a0 ?a1 ?a2 ?a3 ?a4 ?a5 ?a6 ?a7 ?a8 ?a9 ?a10 ?a11 ?a12 ?a13 ?a14 ?a15 ?a16 ?rest
      (case a0 => k_is); (case a1 => k_is); (case a2 => k_is); (case a3 => k_is); (case a4 => k_is); (case a5 => k_is); (case a6 => k_is); (case a7 => k_is); (case a8 => k_is); (case a9 => k_is); (case a10 => k_is); (case a11 => k_is); (case a12 => k_is); (case a13 => k_is); (case a14 => k_is); (case a15 => k_is); (case a16 => k_is)
      case rest =>
      refine' ⟨Nd.exc0_at F.excBase_ValueError rfl ?u_b ?u_k ?u_q, ?z0⟩
      (case u_b => kernel_rfl); (case u_k => kernel_rfl); (case u_q => kernel_rfl)
      case z0 =>
      refine' ⟨Nd.exc0_at F.excBase_ValueError rfl ?u_b ?u_k ?u_q, ?z1⟩
      (case u_b => kernel_rfl); (case u_k => kernel_rfl); (case u_q => kernel_rfl)
      case z1 =>
      refine' ⟨Nd.exc0_at F.excBase_ValueError rfl ?u_b ?u_k ?u_q, ?z2⟩
      (case u_b => kernel_rfl); (case u_k => kernel_rfl); (case u_q => kernel_rfl)
      case z2 =>
      refine' ⟨Nd.exc0_at F.excBase_ValueError rfl ?u_b ?u_k ?u_q, ?z3⟩
      (case u_b => kernel_rfl); (case u_k => kernel_rfl); (case u_q => kernel_rfl)
      case z3 =>
      refine' ⟨Nd.exc0_at F.excBase_ValueError rfl ?u_b ?u_k ?u_q, ?z4⟩
      (case u_b => kernel_rfl); (case u_k => kernel_rfl); (case u_q => kernel_rfl)
      case z4 =>
      refine' ⟨Nd.exc0_at F.excBase_ValueError rfl ?u_b ?u_k ?u_q, ?z5⟩
      (case u_b => kernel_rfl); (case u_k => kernel_rfl); (case u_q => kernel_rfl)
      case z5 =>
      refine' ⟨Nd.exc0_at F.excBase_ValueError rfl ?u_b ?u_k ?u_q, ?z6⟩
      (case u_b => kernel_rfl); (case u_k => kernel_rfl); (case u_q => kernel_rfl)
      case z6 =>
      refine' ⟨Nd.exc0_at F.excBase_ValueError rfl ?u_b ?u_k ?u_q, ?z7⟩
      (case u_b => kernel_rfl); (case u_k => kernel_rfl); (case u_q => kernel_rfl)
      case z7 =>
      refine' ⟨Nd.exc0_at F.excBase_ValueError rfl ?u_b ?u_k ?u_q, ?z8⟩
      (case u_b => kernel_rfl); (case u_k => kernel_rfl); (case u_q => kernel_rfl)
      case z8 =>
      refine' ⟨Nd.exc0_at F.excBase_ValueError rfl ?u_b ?u_k ?u_q, ?z9⟩
      (case u_b => kernel_rfl); (case u_k => kernel_rfl); (case u_q => kernel_rfl)
      case z9 =>
      refine' ⟨Nd.exc0_at F.excBase_ValueError rfl ?u_b ?u_k ?u_q, ?z10⟩
      (case u_b => kernel_rfl); (case u_k => kernel_rfl); (case u_q => kernel_rfl)
      case z10 =>
      refine' ⟨Nd.exc0_at F.excBase_ValueError rfl ?u_b ?u_k ?u_q, ?z11⟩
      (case u_b => kernel_rfl); (case u_k => kernel_rfl); (case u_q => kernel_rfl)
      case z11 =>
      refine' ⟨Nd.exc0_at F.excBase_ValueError rfl ?u_b ?u_k ?u_q, ?z12⟩
      (case u_b => kernel_rfl); (case u_k => kernel_rfl); (case u_q => kernel_rfl)
      case z12 =>
      refine' ⟨Nd.exc1_at rfl ?u_b ?u_k ?u_n (Nd.excV_mk Nd.excB_IndexError ?u_iC ?u_lk ?u_cell ?u_code ?u_v2 ?u_hfile ?u_S ?u_har ?u_hself ?u_hev ?u_hne ?u_q ?u_has ?u_sa ?u_ov ?u_tk ?u_sub ?u_self ?u_sup ?u_tp ?u_top ?u_hcd ?u_tI ?u_hbind), ?z13⟩
      (case u_b => kernel_rfl); (case u_k => kernel_rfl); (case u_n => k_is); (case u_iC => k_is); (case u_lk => k_is); (case u_cell => k_is); (case u_code => k_is); (case u_v2 => rfl); (case u_hfile => kernel_rfl); (case u_S => exact ⟨rfl, rfl, rfl, rfl, rfl, rfl, rfl, by decide +kernel, rfl⟩); (case u_har => rfl); (case u_hself => rfl); (case u_hev => exact ⟨_, fun _ => rfl⟩); (case u_hne => rfl)
      (case u_q => kernel_rfl); (case u_has => k_is); (case u_sa => k_is); (case u_ov => kernel_rfl); (case u_tk => k_is); (case u_sub => k_is); (case u_self => k_is); (case u_sup => ks_is); (case u_tp => k_is); (case u_top => kernel_rfl); (case u_hcd => k_is); (case u_tI => k_is); (case u_hbind => exact fun _ _ _ => .of_eq rfl)
      case z13 =>
      refine' ⟨Nd.exc1_at rfl ?u_b ?u_k ?u_n (Nd.excV_mk Nd.excB_KeyError ?u_iC ?u_lk ?u_cell ?u_code ?u_v2 ?u_hfile ?u_S ?u_har ?u_hself ?u_hev ?u_hne ?u_q ?u_has ?u_sa ?u_ov ?u_tk ?u_sub ?u_self ?u_sup ?u_tp ?u_top ?u_hcd ?u_tI ?u_hbind), ?z14⟩
      (case u_b => kernel_rfl); (case u_k => kernel_rfl); (case u_n => k_is); (case u_iC => k_is); (case u_lk => k_is); (case u_cell => k_is); (case u_code => k_is); (case u_v2 => rfl); (case u_hfile => kernel_rfl); (case u_S => exact ⟨rfl, rfl, rfl, rfl, rfl, rfl, rfl, by decide +kernel, rfl⟩); (case u_har => rfl); (case u_hself => rfl); (case u_hev => exact ⟨_, fun _ => rfl⟩); (case u_hne => rfl)
      (case u_q => kernel_rfl); (case u_has => k_is); (case u_sa => k_is); (case u_ov => kernel_rfl); (case u_tk => k_is); (case u_sub => k_is); (case u_self => k_is); (case u_sup => ks_is); (case u_tp => k_is); (case u_top => kernel_rfl); (case u_hcd => k_is); (case u_tI => k_is); (case u_hbind => exact fun _ _ _ => .of_eq rfl)
      case z14 =>
      refine' ⟨Nd.exc1_at rfl ?u_b ?u_k ?u_n (Nd.excV_mk Nd.excB_OverflowError ?u_iC ?u_lk ?u_cell ?u_code ?u_v2 ?u_hfile ?u_S ?u_har ?u_hself ?u_hev ?u_hne ?u_q ?u_has ?u_sa ?u_ov ?u_tk ?u_sub ?u_self ?u_sup ?u_tp ?u_top ?u_hcd ?u_tI ?u_hbind), ?z15⟩
      (case u_b => kernel_rfl); (case u_k => kernel_rfl); (case u_n => k_is); (case u_iC => k_is); (case u_lk => k_is); (case u_cell => k_is); (case u_code => k_is); (case u_v2 => rfl); (case u_hfile => kernel_rfl); (case u_S => exact ⟨rfl, rfl, rfl, rfl, rfl, rfl, rfl, by decide +kernel, rfl⟩); (case u_har => rfl); (case u_hself => rfl); (case u_hev => exact ⟨_, fun _ => rfl⟩); (case u_hne => rfl)
      (case u_q => kernel_rfl); (case u_has => k_is); (case u_sa => k_is); (case u_ov => kernel_rfl); (case u_tk => k_is); (case u_sub => k_is); (case u_self => k_is); (case u_sup => ks_is); (case u_tp => k_is); (case u_top => kernel_rfl); (case u_hcd => k_is); (case u_tI => k_is); (case u_hbind => exact fun _ _ _ => .of_eq rfl)
      case z15 =>
      refine' ⟨Nd.exc1_at rfl ?u_b ?u_k ?u_n (Nd.excV_mk Nd.excB_LookupError ?u_iC ?u_lk ?u_cell ?u_code ?u_v2 ?u_hfile ?u_S ?u_har ?u_hself ?u_hev ?u_hne ?u_q ?u_has ?u_sa ?u_ov ?u_tk ?u_sub ?u_self ?u_sup ?u_tp ?u_top ?u_hcd ?u_tI ?u_hbind), ?z16⟩
      (case u_b => kernel_rfl); (case u_k => kernel_rfl); (case u_n => k_is); (case u_iC => k_is); (case u_lk => k_is); (case u_cell => k_is); (case u_code => k_is); (case u_v2 => rfl); (case u_hfile => kernel_rfl); (case u_S => exact ⟨rfl, rfl, rfl, rfl, rfl, rfl, rfl, by decide +kernel, rfl⟩); (case u_har => rfl); (case u_hself => rfl); (case u_hev => exact ⟨_, fun _ => rfl⟩); (case u_hne => rfl)
      (case u_q => kernel_rfl); (case u_has => k_is); (case u_sa => k_is); (case u_ov => kernel_rfl); (case u_tk => k_is); (case u_sub => k_is); (case u_self => k_is); (case u_sup => ks_is); (case u_tp => k_is); (case u_top => kernel_rfl); (case u_hcd => k_is); (case u_tI => k_is); (case u_hbind => exact fun _ _ _ => .of_eq rfl)
      case z16 =>
      exact True.intro
#print axioms PySem.Challenge.cw_needrows_k00_errors_holds
end
