import PyProof.Rows.All
import Wide.All
import OpenK.AllK
import Wide.FinOn
import PyProof.AttrMissHeap
import KE.KDictOf
import KE.KItemsList
import KE.KData
import KE.KEqDat
import PySem.Challenge.RW_xm0717_01
set_option Elab.async false
section
open PySem PySem.W PyProof.Rows
namespace Xm
/- the head in one check, in place of pieces (the compiled file is then 13 MB smaller): the library falls back to it where its pieces do not stand -/
local macro_rules | `({ scope := $_, locals := $_, globals := $_, cells := $_, code := $_, frame := $_ }) => Lean.Macro.throwError "the head in one piece"
set_option maxRecDepth 100000 in
set_option maxHeartbeats 8000000 in
open_top hd for PySem.Challenge.rw_xm0717_01
end Xm
end

section
open PySem PySem.W PySem.Calls PyProof.Rows
set_option maxRecDepth 100000
namespace Xm

/-- what is known at a call: the ground g (all that the call leaves as it is), the small ledger of what it may turn -/
structure Site (w : World) (mean : ExcName → Option Value) (mg mb : Str → Option Value) (A : Around) (base : Heap) (outer : List Env) (g : Heap) (s : Shared) (small : List (Addr × Obj)) : Prop where
  below : Below A base outer g
  stays : g.StaysIn s.heap
  size : g.objs.size ≤ s.heap.objs.size
  kin : (hd.heap_39 w.params).In g
  top : Top hd.view_39 (looseW hd.view_39 [Str.ofString "ENDS"]) mean mg mb g
  new : ∀ p ∈ small, s.heap.get? p.1 = some p.2 ∧ g.get? p.1 = none

section
variable {w : World} {mean : ExcName → Option Value} {mg mb : Str → Option Value} {A : Around} {base g : Heap} {outer : List Env} {s : Shared} {small : List (Addr × Obj)}

theorem enter {R : Result → Shared → Prop} {name qual : Str} {params : Arguments} {body : List Stmt} {scope : Scope} {dV kV doc pm cdv ct oc : Value} {an od : Option Addr} {osl : Array (Option Value)} {f : Addr} {args : Args} {binds : List (Str × Value)}
    (S : Site w mean mg mb A base outer g s small)
    (ho : (hd.heap_39 w.params).lookup f = some ⟨oc, od, .func (fnOf name qual params body scope dV kV doc pm an cdv ct), osl⟩) (hcd : codeIn (hd.heap_39 w.params) cdv qual = true) (hroom : A.depth < recursionLimit)
    (hbind : BindsTo s (fnOf name qual params body scope dV kV doc pm an cdv ct) args binds) (hloc : ∀ y ∈ binds, scope.names.lookup y.1 = some .local)
    (h : ∀ L' h₁, Fr g L' h₁ (fun y => binds.reverse.lookup y) → News g L' h₁ small →
      wpAny (model PySem.Challenge.rw_xm0717_01.row.prog w) (A.deeper (envOf qual scope L' f cdv)) (execs body (envOf qual scope L' f cdv))
        (fun fl s' => R (.ok (.ret (match fl with | .ret v => v | _ => .none))) s')
        (fun e s' => wpAny (model PySem.Challenge.rw_xm0717_01.row.prog w) (A.deeper (envOf qual scope L' f cdv)) (leaving (envOf qual scope L' f cdv) e) (fun _ s'' => R (.error e) s'') (fun e' s'' => R (.error e') s'') s')
        { s with heap := h₁, toks := s.toks + binds.length })
    (hco : scope.isCoroutine = false) (hgen : scope.isGenerator = false) (hk : scope.kind = .function)
    (hcell : ∀ x ∈ scope.names, x.2 ≠ .cell) : codeAny (model PySem.Challenge.rw_xm0717_01.row.prog w) A (.call (.ref f) args) R s := by
  have X := S.kin.keeps S.stays
  refine codeAny_call_def (fd := fnOf name qual params body scope dV kV doc pm an cdv ct) (body := body) (binds := binds) hroom (X _ _ ho) rfl (S.top.nolimit.keeps S.stays) (codeRec_of X hcd) rfl hbind hcell hloc (fun h₁ hns hk₁ => ?_) hco hgen hk
  exact h s.heap.objs.size h₁ ⟨hns, fun b o e => hk₁ b o (S.stays b o e), S.size⟩ fun p hp => ⟨hk₁ _ _ (S.new p hp).1, Nat.ne_of_lt (Heap.lt_size (S.new p hp).1), (S.new p hp).2⟩

variable {A₀ : Around} {h₀ : Heap} {L : Addr} {m : Str → Option Value} {news rest : List (Addr × Obj)}

theorem below_push {env : Env} {h : Heap} (B : Below A₀ base outer h₀) (F : Fr h₀ L h m) (hf : env.frame = some L) (hk : env.scope.kind = .function) : Below (A₀.deeper env) base (env :: outer) h := by
  have hnew : base.get? L = none := by
    cases hq : base.get? L with
    | none => rfl
    | some o => exact absurd (Nat.lt_of_lt_of_le (Heap.lt_size (B.stays L o hq)) F.above) (Nat.lt_irrefl _)
  exact ⟨Around.frames_deeper B.stack, fun b o e => F.keep b o (B.stays b o e), .cons (by rw [hk]; decide) hf F.ns hnew (B.frames.of_keeps fun b o e _ => ⟨o, F.keep b o e, rfl⟩)⟩

theorem frames_two {env : Env} (hf : env.frame = some L) {b : Addr} (hm : b ∈ (env :: outer).filterMap (·.frame)) : b = L ∨ b ∈ outer.filterMap (·.frame) := by
  obtain ⟨e', he, hb⟩ := List.mem_filterMap.mp hm
  rcases List.mem_cons.mp he with rfl | he
  · rw [hf] at hb
    exact .inl (Option.some.inj hb).symm
  · exact .inr (List.mem_filterMap.mpr ⟨e', he, hb⟩)

theorem site_of {env : Env} (B : Below A₀ base outer h₀) (F : Fr h₀ L s.heap m) (X : (hd.heap_39 w.params).In h₀) (N : News h₀ L s.heap news) (T : Top hd.view_39 (looseW hd.view_39 [Str.ofString "ENDS"]) mean mg mb h₀)
    (hf : env.frame = some L) (hk : env.scope.kind = .function) (sub : ∀ p ∈ small, p ∈ news) :
    Site w mean mg mb (A₀.deeper env) base (env :: outer) (hideAll s.heap (small.map (·.1))) s small ∧ Fr h₀ L (hideAll s.heap (small.map (·.1))) m ∧
      ∀ p ∈ news, p.1 ∉ small.map (·.1) → (hideAll s.heap (small.map (·.1))).get? p.1 = some p.2 := by
  have B₁ := below_push B F hf hk
  have Ns : News h₀ L s.heap small := fun p hp => N p (sub p hp)
  have nm : ∀ b o, h₀.get? b = some o → b ∉ small.map (·.1) := fun b o e q => by
    obtain ⟨p, hp, rfl⟩ := List.mem_map.mp q
    rw [(Ns p hp).2.2] at e
    cases e
  have nL : L ∉ small.map (·.1) := fun q => by
    obtain ⟨p, hp, e⟩ := List.mem_map.mp q
    exact (Ns p hp).2.1 e
  have st : h₀.StaysIn (hideAll s.heap (small.map (·.1))) := fun b o e => hideAll_get _ (F.keep b o e) (nm b o e)
  obtain ⟨oL, es, ep, hL, r⟩ := F.ns
  have hLg := hideAll_get (small.map (·.1)) hL nL
  refine ⟨⟨⟨B₁.stack, fun b o e => st b o (B.stays b o e), funFrames_hideAll B₁.frames fun env' he b hb hf' => ?_⟩, fun b o e => of_hideAll _ e, Nat.le_of_eq (hideAll_size _ _), X.keeps st, T.keeps st, fun p hp => ⟨(Ns p hp).1, hideAll_none _ (List.mem_map_of_mem hp)⟩⟩,
    ⟨⟨oL, es, ep, hLg, r⟩, st, F.above⟩, fun p hp hn => hideAll_get _ (N p hp).1 hn⟩
  rcases List.mem_cons.mp he with rfl | he
  · rw [hf] at hf'
    exact nL ((Option.some.inj hf' : L = b) ▸ hb)
  · obtain ⟨L₁, o₁, hf₁, ho₁⟩ := funFrames_in B.frames env' he
    rw [hf₁] at hf'
    exact nm L₁ o₁ ho₁ ((Option.some.inj hf' : L₁ = b) ▸ hb)

theorem back_of {small' : List (Addr × Obj)} {h' : Heap} (F : Fr h₀ L s.heap m) (Fg : Fr h₀ L g m) (N : News h₀ L s.heap news) (st : g.StaysIn h') (new : ∀ p ∈ small', h'.get? p.1 = some p.2 ∧ g.get? p.1 = none)
    (hr : ∀ p ∈ rest, p ∈ news ∧ g.get? p.1 = some p.2) : Fr h₀ L h' m ∧ News h₀ L h' (small' ++ rest) := by
  obtain ⟨oL, es, ep, hL, hLd, hLk, hLf⟩ := Fg.ns
  refine ⟨⟨⟨oL, es, ep, st _ _ hL, hLd, hLk, hLf⟩, fun b o e => st b o (Fg.keep b o e), F.above⟩, fun p hp => ?_⟩
  rcases List.mem_append.mp hp with q | q
  · refine ⟨(new p q).1, fun z => ?_, kts_none Fg.keep (new p q).2⟩
    have := (new p q).2
    rw [z, hL] at this
    cases this
  · exact ⟨st _ _ (hr p q).2, (N p (hr p q).1).2⟩
end

/-- a contract in one world: what a call of f gives back, and what it leaves on the small ledger (Ok: from the size of the heap at the call), or what the ledger is where it raises SheetFault -/
def CtrAt (w : World) (lim : Nat) (f : Addr) (args : List Value) (small : List (Addr × Obj)) (Ok : Nat → Value → List (Addr × Obj) → Prop) (Er : List (Addr × Obj) → Prop) : Prop :=
  ∀ (mean : ExcName → Option Value) (mg mb : Str → Option Value) (d u : Nat) (gs : Option (List Code)) (base : Heap) (outer : List Env) (g : Heap) (s : Shared),
    Site w mean mg mb ⟨none, d, some outer, gs, u⟩ base outer g s small → d + lim ≤ 400 → u + 4 * lim ≤ 4000 → ∀ R : Result → Shared → Prop,
    (∀ v small' h' tk, Ok s.heap.objs.size v small' → g.StaysIn h' → (∀ p ∈ small', h'.get? p.1 = some p.2 ∧ g.get? p.1 = none) → R (.ok (.ret v)) { s with heap := h', toks := tk }) →
    (∀ e small' h' tk, Er small' → RaisedSN base g outer e (.ref 44) small' h' → g.UpToSlots h' → R (.error (.ref e)) { s with heap := h', toks := tk }) →
    codeAny (model PySem.Challenge.rw_xm0717_01.row.prog w) ⟨none, d, some outer, gs, u⟩ (.call (.ref f) ⟨args, []⟩) R s
def Ctr (lim : Nat) (f : Addr) (args : List Value) (small : List (Addr × Obj)) (Ok : Nat → Value → List (Addr × Obj) → Prop) (Er : List (Addr × Obj) → Prop) : Prop :=
  ∀ w : World, CtrAt w lim f args small Ok Er

theorem room_of {d lim k : Nat} (h : d + lim ≤ 400) (hk : k ≤ 500) : d + k < recursionLimit := by
  show d + k < 1000
  omega
end Xm
end

section
open PySem PySem.W PySem.Calls PyProof.Rows PySem.Spec Builtin Builtin.ObjectAttr
set_option maxRecDepth 100000
set_option maxHeartbeats 4000000
namespace Xm
section
variable {w : World} {A : Around} {E : Value → Shared → Prop} {s : Shared} {R : Result → Shared → Prop}

theorem fillme (w : World) : PySem.Challenge.rw_xm0717_01.prog = PySem.Challenge.rw_xm0717_01.prog ∧ hd.heap_39 w.params = hd.heap_39 w.params := by k_fill; exact ⟨rfl, rfl⟩

/-- self.message = .. upon an exception that has no dict of its own yet -/
theorem osa_message {e : Addr} {vs : Array Value} {sl : Array (Option Value)} {tk : Tok} {v : Value} (X : (hd.heap_39 w.params).In s.heap)
    (he : s.heap.get? e = some ⟨.ref 44, none, .fields vs, sl⟩)
    (h : ∀ h' tk', (∀ b o, b ≠ e → s.heap.get? b = some o → h'.get? b = some o) → (∃ d, h'.get? e = some ⟨.ref 44, some d, .fields vs, sl⟩) → R (.ok (.ret .none)) { s with heap := h', toks := tk' }) :
    codeAny (model PySem.Challenge.rw_xm0717_01.row.prog w) A (.call (.builtin "object.__setattr__") ⟨[.ref e, .str (PySem.Str.ofString "message") tk, v], []⟩) R s := by
  have hfill := fillme w
  have SF := PySem.F.store_object
  have I : InstAt s.heap e ⟨.ref 44, none, .fields vs, sl⟩ 44 none := ⟨he, rfl, rfl, trivial⟩
  have sub : Looks (model PySem.Challenge.rw_xm0717_01.row.prog w) s.heap (isInstance (.ref e) (.type "object")) true := I.type.andThen (looks_subIn X (by k_is))
  refine codeAny_call_builtin SF.slot.plain SF.entry (@check_slot (model PySem.Challenge.rw_xm0717_01.row.prog w) _ _ s "object.__setattr__" "object" "__setattr__" (.ref e) [.str (PySem.Str.ofString "message") tk, v] [] _ SF.kind SF.split sub (SF.args (.ref e) (.str (PySem.Str.ofString "message") tk) v) ?_)
  obtain ⟨cd, hc, hmro, hhas⟩ : ∃ cd, clsIn (hd.heap_39 w.params) 44 = some cd ∧ cd.mro = [.ref 44, .ref 31, .type "Exception", .type "BaseException", .type "object"] ∧ cd.hasDict = true := by
    exact ⟨_, rfl, rfl, rfl⟩
  have hm : Looks (model PySem.Challenge.rw_xm0717_01.row.prog w) s.heap (mroOf (.ref 44)) cd.mro := (looks_clsIn X hc).andThen .now
  rw [osa_eq, refuse_eq]
  refine wpAny_bind (wpAny_bind (I.type.here (wpAny_bind (hm.here ?_))))
  rw [hmro, refuseLoop_ref, refuseLoop_ref, PySem.F.store_Exception.passes]
  refine wpAny_pure (wpAny_bind (I.type.here (wpAny_bind ((looks_findIn X (r := none) (by k_is)).here (wpAny_bind (Looks.now.here ?_))))))
  show wpAny _ _ (storeInOwnDict (.ref e) (.ref 44) (.str (PySem.Str.ofString "message") tk) (PySem.Str.ofString "message") v false) _ _ _
  have hdict : cd.hasDict = true := hhas
  unfold storeInOwnDict
  refine wpAny_bind (wpAny_pure (wpAny_bind (wpAny_bind (wpAny_loadPart he (wpAny_bind ((looks_clsIn X hc).here ?_))))))
  rw [hdict]
  refine wpAny_bind (wpAny_alloc (wpAny_bind (wpAny_update (Heap.get?_push_of_some _ he) ?_)))
  refine wpAny_pure (wpAny_bind ?_)
  refine wpAny_pure (wpAny_bind ?_)
  unfold nsSet
  have hlt := Heap.lt_size he
  have hd0 : ((s.heap.push ({ cls := .type "dict", data := .dict #[] } : Obj)).update e fun o => { o with dict := some s.heap.objs.size }).get? s.heap.objs.size = some { cls := .type "dict", data := .dict #[] } := by
    rw [Heap.get?_update_other _ _ (Nat.ne_of_lt hlt)]
    exact Heap.get?_push_size _ rfl
  refine wpAny_bind (wpAny_bind (wpAny_askSetting (wpAny_pure (wpAny_bind (wpAny_mkText (wpAny_bind (wpAny_loadPart hd0 ?_)))))))
  refine wpAny_updatePart hd0 ?_
  have he1 : ((s.heap.push ({ cls := .type "dict", data := .dict #[] } : Obj)).update e fun o => { o with dict := some s.heap.objs.size }).get? e = some ⟨.ref 44, some s.heap.objs.size, .fields vs, sl⟩ :=
    Heap.get?_update_self _ (Heap.get?_push_of_some _ he) rfl
  have hd1 := Heap.get?_update_self (Obj.putName (PySem.Str.ofString "message") (PyData.keyHash w.params (PySem.Str.ofString "message")) (.str (PySem.Str.ofString "message") (s.toks)) v) hd0 rfl
  refine wpAny_bind (wpAny_lookBehind hd1 (pastItsLine_dict (show (1 : Nat) ≤ sizeLine + 1 from Nat.le_of_ble_eq_true rfl)) ?_)
  refine wpAny_pure (h _ _ (fun b o hb hbo => ?_) ⟨s.heap.objs.size, ?_⟩)
  · rw [Heap.get?_update_other _ _ (Ne.symm (Nat.ne_of_lt (Heap.lt_size hbo))), Heap.get?_update_other _ _ (Ne.symm hb)]
    exact Heap.get?_push_of_some _ hbo
  · rw [Heap.get?_update_other _ _ (Ne.symm (Nat.ne_of_lt hlt))]
    exact he1
end

section
variable {w : World} {A : Around} {E : Value → Shared → Prop} {h : Heap} {g : Array GenState} {d : Drawn} {t : Nat} {os : OsState} {R : Result → Shared → Prop}
variable {nm q : Str} {bs : List Value} {hdct : Bool} {sn : List Str} {sub : List Value} {ab : Bool} {col : Option Bool} {dd : Option Addr} {k0 k1 k2 k3 k5 : Option Value}

abbrev sheetMro : List Value := [.ref 31, .type "Exception", .type "BaseException", .type "object"]
abbrev sheetCls (nm q : Str) (bs : List Value) (hdct : Bool) (sn : List Str) (sub : List Value) (ab : Bool) (col : Option Bool) (dd : Option Addr) (k0 k1 k2 k3 k5 : Option Value) : Obj :=
  excClassObj nm q 44 43 bs sheetMro hdct sn sub ab col dd k0 k1 k2 k3 k5 "Exception.__new__"

theorem sheet_in (X : (hd.heap_39 w.params).In h) : ∃ nm q bs hdct sn sub ab col dd k0 k1 k2 k3 k5, h.get? 44 = some (sheetCls nm q bs hdct sn sub ab col dd k0 k1 k2 k3 k5) := by
  have hfill := fillme w
  refine ⟨_, _, _, _, _, _, _, _, _, _, _, _, _, _, X 44 _ rfl⟩

theorem has_Exception : (Value.ref 44 :: sheetMro).contains (.type "Exception") = true := by decide
theorem has_Attr : (Value.ref 44 :: sheetMro).contains (.type "AttributeError") = false := by decide
theorem has_Name : (Value.ref 44 :: sheetMro).contains (.type "NameError") = false := by decide
theorem has_self : (Value.ref 44 :: sheetMro).contains (.ref 44) = true := by decide
theorem has_Base : (Value.ref 44 :: sheetMro).contains (.type "BaseException") = true := by decide

theorem sheet_check {M : Model} {rest : List Value} {Q : Unit → Shared → Prop} (hC : h.get? 44 = some (sheetCls nm q bs hdct sn sub ab col dd k0 k1 k2 k3 k5))
    (hq : Q () ⟨h, g, d, t, os⟩) : wpAny M A (checkBuiltinCall "Exception.__new__" ⟨.ref 44 :: rest, []⟩) Q E ⟨h, g, d, t, os⟩ := by
  have F := PySem.F.excBase_Exception
  have hstar := F.noStar
  simp only [checkBuiltinCall, F.newKind, F.newSplit, F.newRow]
  repeat (first | refine wpAny_loadPart_at hC ?_ | (refine wpAny_isSubtype_exc hC ?_; rw [has_Exception]) | refine wpAny_staticBase_exc hC ?_ | refine wpAny_madeBy_exc hC ?_ | simp only [bne_self_eq_false, Bool.false_eq_true, if_false] | wp_step)
  exact hq

theorem sheet_new {rest : List Value} (hC : h.get? 44 = some (sheetCls nm q bs hdct sn sub ab col dd k0 k1 k2 k3 k5))
    (hq : R (.ok (.ret (.ref (h.objs.size + 1)))) ⟨(h.push { cls := .type "tuple", data := .seq rest.toArray }).push
      { cls := .ref 44, data := .fields #[.ref h.objs.size, .none, .none, .none, .bool false, .none] }, g, d, t, os⟩) (hrest : rest.length ≤ sizeLine) :
    codeAny (model PySem.Challenge.rw_xm0717_01.row.prog w) A (.builtin "Exception.__new__" ⟨.ref 44 :: rest, []⟩) R ⟨h, g, d, t, os⟩ := by
  have F := PySem.F.excBase_Exception
  have hends := F.ends
  have h1 := has_Exception
  have h2 := has_Attr
  have h3 := has_Name
  refine codeAny_builtinAt F.entry ?_
  unfold Builtin.«BaseException.__new__»
  refine PySem.wpAt_bind ?_
  show PySem.wpAt _ _ _ (stack >>= _) _ _ _
  refine PySem.wpAt_bind (PySem.wpAt_stack fun p below => PySem.wpAt_of_wpAny ?_)
  wp_walk
  refine PySem.wpAt_of_wpAny ?_
  rw [F.owner]
  repeat (first | with_reducible refine wpAny_madeHere_exc F.canon hC ?_ | with_reducible refine wpAny_loadPart_at hC ?_ | (with_reducible refine wpAny_isSubtype_exc hC ?_; first | rw [h1] | rw [h2] | rw [h3]) | wp_step)
  show R _ _
  rw [Heap.size_push]
  exact hq
end
end Xm
end

section
open PySem PySem.W PySem.Calls PyProof.Rows PySem.Spec Builtin Builtin.ObjectAttr
set_option maxRecDepth 100000
set_option maxHeartbeats 4000000
namespace Xm
theorem fill_exc2 (w : World) : PySem.Challenge.rw_xm0717_01.prog = PySem.Challenge.rw_xm0717_01.prog ∧ hd.heap_39 w.params = hd.heap_39 w.params := by k_fill; exact ⟨rfl, rfl⟩
section
variable {w : World} {A : Around} {E : Value → Shared → Prop} {h : Heap} {g : Array GenState} {d : Drawn} {t : Nat} {os : OsState} {R : Result → Shared → Prop}

/-- a SheetFault is made: __new__, then MillError's __init__ -/
theorem sheet_type_call {rest : List Value} {Q : PySem.Fin → Shared → Prop} (X : (hd.heap_39 w.params).In h)
    (hq : ∀ h' e, Heap.MadeExcOf h h' e (.ref 44) rest →
      wpAny (model PySem.Challenge.rw_xm0717_01.row.prog w) A (call (.ref 28) (.ref e :: rest)) (fun r s' => r = .none ∧ Q (.done (.ret (.ref e))) s') E ⟨h', g, d, t, os⟩) (hrest : rest.length ≤ sizeLine) :
    wpAny (model PySem.Challenge.rw_xm0717_01.row.prog w) A (Builtin.«type.__call__» ⟨.ref 44 :: rest, []⟩) Q E ⟨h, g, d, t, os⟩ := by
  have hfill := fillme w
  obtain ⟨nm, q, bs, hdct, sn, sub, ab, col, dd, k0, k1, k2, k3, k5, hC⟩ := sheet_in X
  repeat (first | with_reducible refine wpAny_loadPart_at hC ?_ | with_reducible refine wpAny_madeBy_exc hC ?_ | wp_step)
  refine codeAny_call_builtin_code (Code.quiet_builtin _ PySem.F.excBase_Exception.quiet) (sheet_check hC ?_)
  refine sheet_new hC ?_ hrest
  show wpAny _ _ _ _ _ _
  have keep : ∀ b o, h.get? b = some o → ((h.push { cls := .type "tuple", data := .seq rest.toArray }).push { cls := .ref 44, data := .fields #[.ref h.objs.size, .none, .none, .none, .bool false, .none] }).get? b = some o :=
    fun b o e => Heap.get?_push_of_some _ (Heap.get?_push_of_some _ e)
  have hC₁ := keep _ _ hC
  have X₁ := X.keeps keep
  have hget : ((h.push { cls := .type "tuple", data := .seq rest.toArray }).push
      { cls := .ref 44, data := .fields #[.ref h.objs.size, .none, .none, .none, .bool false, .none] }).get? (h.objs.size + 1) = some
      { cls := .ref 44, data := .fields #[.ref h.objs.size, .none, .none, .none, .bool false, .none] } := by heap_get
  unfold isInstance
  repeat (first | with_reducible refine wpAny_loadPart_at hget ?_ | (with_reducible refine wpAny_isSubtype_exc hC₁ ?_; rw [has_self]) | wp_step)
  show wpAny _ _ (typeLookup (.ref 44) _) _ _ _
  refine (looks_findIn X₁ (name := PySem.Str.ofString "__init__") (r := some (.ref 28)) (by k_is)).here ?_
  refine wpAny_holding (wpAny_bind ?_)
  unfold bindSpecial
  refine wpAny_bind ((looks_typeIn X₁ (v := .ref 28) (t := .type "function") (by k_is)).here ?_)
  rw [if_pos (by decide)]
  refine wpAny_pure (wpAny_bind (wpAny_mono (hq _ (h.objs.size + 1) ⟨keep, Heap.get?_none_of_le (Nat.le_succ _), h.objs.size, hget, Heap.get?_none_of_le (Nat.le_refl _), ?_⟩) (fun r s' hr => ?_) fun _ _ x => x))
  · exact Heap.get?_push_of_some _ (Heap.get?_push_at rfl rfl)
  · obtain ⟨rfl, hQ⟩ := hr
    wp_walk
    exact hQ

theorem sheet_call0 {rest : List Value} {Q : Value → Shared → Prop} (X : (hd.heap_39 w.params).In h)
    (hq : ∀ h' e, Heap.MadeExcOf h h' e (.ref 44) rest →
      wpAny (model PySem.Challenge.rw_xm0717_01.row.prog w) (A.under (.builtin "type.__call__" ⟨.ref 44 :: rest, []⟩)) (call (.ref 28) (.ref e :: rest)) (fun r s' => r = .none ∧ Q (.ref e) s') E ⟨h', g, d, t, os⟩) (hrest : rest.length ≤ sizeLine) :
    wpAny (model PySem.Challenge.rw_xm0717_01.row.prog w) A (call (.ref 44) rest) Q E ⟨h, g, d, t, os⟩ := by
  obtain ⟨nm, q, bs, hdct, sn, sub, ab, col, dd, k0, k1, k2, k3, k5, hC⟩ := sheet_in X
  have f1 := tc_lookup
  have f2 := tc_bind (.ref 44)
  have hT : (⟨h, g, d, t, os⟩ : Shared).TypeIs (.ref 44) "type" := ⟨_, hC, rfl⟩
  refine wpAny_call (codeAny_of_tree ?_)
  show wpAny _ _ (callAny (.ref 44) _) _ _ _
  repeat (any_goals (first | assumption | with_reducible refine wpAny_loadPart_at hC ?_ | wp_step))
  refine ⟨rfl, ?_⟩
  refine codeAny_call_builtin_at (Code.quiet_builtin _ (by decide +kernel)) entry_typeCall (wpAny_check_type_call_sub hC (sheet_type_call X (fun h' e hm => ?_) hrest))
  exact hq h' e hm
end
end Xm
end

section
open PySem PySem.W PySem.Calls PyProof.Rows PySem.Spec Builtin Builtin.ObjectAttr
set_option maxRecDepth 100000
set_option maxHeartbeats 4000000
namespace Xm
theorem fill_exc3 (w : World) : PySem.Challenge.rw_xm0717_01.prog = PySem.Challenge.rw_xm0717_01.prog ∧ hd.heap_39 w.params = hd.heap_39 w.params := by k_fill; exact ⟨rfl, rfl⟩

/-- a new exception of the class cls stands at e, and nothing else is turned -/
structure NewOf (h h' : Heap) (e : Addr) (cls : Value) : Prop where
  keeps : ∀ b o, h.get? b = some o → h'.get? b = some o
  new : h.get? e = none
  there : ∃ ob t, h'.get? e = some ob ∧ ob.cls = cls ∧ ob.data = .fields #[.ref t, .none, .none, .none, .bool false, .none]

section
variable {w : World} {mean : ExcName → Option Value} {mg mb : Str → Option Value} {A₀ : Around} {E : Value → Shared → Prop} {s : Shared} {base h₀ : Heap} {outer : List Env} {L : Addr} {m : Str → Option Value} {env : Env}

theorem sheet_init {msg : PySem.Str} {t : Tok} {Q : Value → Shared → Prop} {e : Addr} (B : Below A₀ base outer h₀) (F : Fr h₀ L s.heap m) (X : (hd.heap_39 w.params).In h₀)
    (T : Top hd.view_39 (looseW hd.view_39 [Str.ofString "ENDS"]) mean mg mb h₀) (hf : env.frame = some L) (hk : env.scope.kind = .function) (hroom : A₀.depth + 5 < 1000)
    {tp : Addr} (he : s.heap.get? e = some { cls := .ref 44, data := .fields #[.ref tp, .none, .none, .none, .bool false, .none] }) (h0 : h₀.get? e = none)
    (hQ : ∀ h' tk d, (∀ b o, b ≠ e → s.heap.get? b = some o → h'.get? b = some o) → h'.get? e = some ⟨.ref 44, some d, .fields #[.ref tp, .none, .none, .none, .bool false, .none], #[]⟩ → Q .none { s with heap := h', toks := tk }) {c : List Value} :
    wpAny (model PySem.Challenge.rw_xm0717_01.row.prog w) ((A₀.deeper env).under (.builtin "type.__call__" ⟨.ref 44 :: c, []⟩)) (call (.ref 28) [.ref e, .str msg t]) Q E s := by
  have hfill := fill_exc3 w
  have hL : e ≠ L := fun q => by
    obtain ⟨oL, es, ep, hL, hd, _⟩ := F.ns
    rw [← q, he] at hL
    cases hL
    cases hd
  have N : News h₀ L s.heap [(e, { cls := .ref 44, data := .fields #[.ref tp, .none, .none, .none, .bool false, .none] })] := fun p hp => by
    rcases List.mem_cons.mp hp with rfl | hp
    · exact ⟨he, hL, h0⟩
    · exact nomatch hp
  obtain ⟨S₀, -, -⟩ := site_of B F X N T hf hk (fun p hp => hp)
  have S : Site w mean mg mb ((A₀.deeper env).under (.builtin "type.__call__" ⟨.ref 44 :: c, []⟩)) base (env :: outer) _ s _ :=
    ⟨⟨S₀.below.stack, S₀.below.stays, S₀.below.frames⟩, S₀.stays, S₀.size, S₀.kin, S₀.top, S₀.new⟩
  clear S₀
  refine wpAny_call ?_
  refine' enter (binds := [(PySem.Str.ofString "self", .ref e), (PySem.Str.ofString "message", .str msg t)]) S ?k6 ?k7 ?k8 ?k9 ?kB ?_ ?c2 ?c3 ?c4 ?c5; (case k6 => k_is); (case k7 => k_is); (case k8 => (show A₀.depth + 1 + 1 < 1000; omega)); (case k9 => exact BindsTo.of_eq rfl); (case c5 => decide); (case kB => exact locs rfl); (case c2 => exact rfl); (case c3 => exact rfl); (case c4 => exact rfl)
  intro L' h₁ F₁ N₁
  have B₁ := S.below
  have X₁ := S.kin
  have T₁ := S.top
  have hkeep : ∀ b o, b ≠ e → s.heap.get? b = some o → h₁.get? b = some o := fun b o hb hbo => F₁.keep b o (hideAll_get _ hbo (by simpa using hb))
  have he₁ := (N₁ _ (.head _)).1
  clear S B F X T
  show wpAny _ _ _ _ _ _
  k_fold
  walk1
  walk1
  walk1
  walk1
  walk1
  have I₁ : W.InstAt h₁ e { cls := .ref 44, data := .fields #[.ref tp, .none, .none, .none, .bool false, .none] } 44 none := ⟨he₁, rfl, rfl, trivial⟩
  refine set_plain (X₁.keeps F₁.keep) I₁ (by k_is) (osa_message (s := ⟨h₁, _, _, _, _⟩) (X₁.keeps F₁.keep) he₁ fun h' tk' k1 k2 => ?_)
  obtain ⟨dd, k2⟩ := k2
  dsimp only
  walk1
  k_unfold
  exact hQ h' _ dd (fun b o hb hbo => k1 b o hb (hkeep b o hb hbo)) k2

theorem sheet_call {msg : PySem.Str} {t : Tok} {Q : Value → Shared → Prop} (B : Below A₀ base outer h₀) (F : Fr h₀ L s.heap m) (X : (hd.heap_39 w.params).In h₀)
    (T : Top hd.view_39 (looseW hd.view_39 [Str.ofString "ENDS"]) mean mg mb h₀) (hf : env.frame = some L) (hk : env.scope.kind = .function) (hroom : A₀.depth + 5 < 1000)
    (hQ : ∀ h' e tk, NewOf s.heap h' e (.ref 44) → Q (.ref e) { s with heap := h', toks := tk }) :
    wpAny (model PySem.Challenge.rw_xm0717_01.row.prog w) (A₀.deeper env) (call (.ref 44) [.str msg t]) Q E s := by
  obtain ⟨hp, g, d, tk, os⟩ := s
  refine sheet_call0 (X.keeps F.keep) (fun h' e hm => ?_) (show (1 : Nat) ≤ sizeLine from Nat.le_of_ble_eq_true rfl)
  obtain ⟨tp, ht, hn, htp⟩ := hm.there
  have F' : Fr h₀ L h' m := F.keeps hm.keeps
  have h0 : h₀.get? e = none := kts_none F.keep hm.new
  refine sheet_init (s := ⟨h', g, d, tk, os⟩) B F' X T hf hk hroom ht h0 (fun h₂ tk₂ dd k1 k2 => ⟨rfl, hQ h₂ e tk₂ ⟨fun b o hb => ?_, hm.new, _, tp, k2, rfl, rfl⟩⟩)
  refine k1 b o (fun q => ?_) (hm.keeps b o hb)
  rw [q, hm.new] at hb
  cases hb
end
end Xm
end

section
open PySem PySem.W PySem.Calls PyProof.Rows PySem.Spec
set_option maxRecDepth 100000
set_option maxHeartbeats 4000000
namespace Xm

/-- what a raise of an own exception asks of the value at hand -/
def RaisableO (w : World) (E : Value → Shared → Prop) (v : Value) (s₁ : Shared) : Prop :=
  ∃ e dx t sl, v = .ref e ∧ (hd.heap_39 w.params).In s₁.heap ∧ s₁.heap.get? e = some ⟨.ref 44, dx, .fields #[.ref t, .none, .none, .none, .bool false, .none], sl⟩ ∧ E (.ref e) s₁

section
variable {w : World} {M : Model} {A : Around} {E : Value → Shared → Prop} {s : Shared} {env : Env}

theorem raiseStmt_sheet {x : Sem Value} {Q : Flow → Shared → Prop} (hh : A.handled = none) (h : wpAny M A x (RaisableO w E) E s) : wpAny M A (raiseStmt env (some x) none) Q E s := by
  unfold raiseStmt
  refine wpAny_bind (wpAny_mono h (fun v s₁ h₁ => ?_) fun _ _ x => x)
  obtain ⟨e, dx, t, sl, rfl, X, he, hE⟩ := h₁
  obtain ⟨nm, q, bs, hdct, sn, sub, ab, col, dd, k0, k1, k2, k3, k5, hC⟩ := sheet_in X
  have hb := has_Base
  obtain ⟨hp, g, d, tk, os⟩ := s₁
  repeat (first | with_reducible refine wpAny_loadPart_at he ?_ | with_reducible refine wpAny_loadPart_at hC ?_ | (with_reducible refine wpAny_isSubtype_exc hC ?_; rw [hb]) | wp_step)
  exact wpAny_raiseNew_none hh hE

theorem Raise_sheet {x : PySem.Expr} {pos : Pos} {Q : Flow → Shared → Prop} (hh : A.handled = none) (h : wpAny M A (PySem.eval x env) (RaisableO w E) E s) :
    wpAny M A (exec (.Raise (some x) none pos) env) Q E s := by
  rw [arm_exec_Raise]
  exact wpAny_bind (wpAny_standAt (raiseStmt_sheet (w := w) hh (wpAny_bind (wpAny_mono h (fun v s hv => wpAny_bind (wpAny_standAt (wpAny_pure hv))) fun _ _ y => y))))
end

section
variable {M : Model} {A : Around} {E : Value → Shared → Prop} {s' : Shared} {base g h : Heap} {outer : List Env} {L a e : Addr} {m : Str → Option Value} {name : Str} {scope : Scope} {cd : Value} {Q : Unit → Shared → Prop} {news : List (Addr × Obj)}
/-- the first frame that a new exception leaves -/
theorem leave_newOf {cls : Value} (K : Below A base outer g) (hx : NewOf h s'.heap e cls) (F : Fr g L h m) (N : News g L h news)
    (hQ : ∀ h', RaisedSN base g outer e cls news h' → g.UpToSlots h' → Q () { s' with heap := h' }) (hk : scope.kind = .function := by rfl) :
    wpAny M (A.deeper (envOf name scope L a cd)) (leaving (envOf name scope L a cd) (.ref e)) Q E s' := by
  have K' := K.push (name := name) (a := a) (cd := cd) F hk
  let fs := (envOf name scope L a cd :: outer).filterMap (·.frame)
  have mem : ∀ env ∈ (envOf name scope L a cd :: outer), ∀ b, env.frame = some b → b ∈ fs := fun env he b hb => List.mem_filterMap.mpr ⟨env, he, hb⟩
  have inB : base.StaysIn (hideAll h fs) := fun b o q => hideAll_get _ (K'.stays b o q) fun z => by
    rw [(K'.frames.mem z).1] at q
    cases q
  have inG : ∀ b o, g.get? b = some o → b ∉ outer.filterMap (·.frame) → (hideAll h fs).get? b = some o := fun b o q nm => hideAll_get _ (F.keep b o q) fun z => by
    rcases kts_mem z with z | z
    · rw [z, kts_self F] at q
      cases q
    · exact nm z
  have inN : ∀ q ∈ news, (hideAll h fs).get? q.1 = some q.2 ∧ g.get? q.1 = none ∧ base.get? q.1 = none := fun q hq => by
    refine ⟨hideAll_get _ (N q hq).1 fun z => ?_, (N q hq).2.2, fresh_of_stays K.stays (N q hq).2.2⟩
    rcases kts_mem z with z | z
    · exact (N q hq).2.1 z
    · obtain ⟨o, ho, _⟩ := (K.frames.mem z).2
      rw [(N q hq).2.2] at ho
      cases ho
  obtain ⟨ob, t, he, hc, hd⟩ := hx.there
  have fresh : (hideAll h fs).get? e = none := by
    cases q : (hideAll h fs).get? e with
    | none => rfl
    | some o =>
      have := of_hideAll _ q
      rw [hx.new] at this
      cases this
  refine wpAny_leaving_firstW (a0 := .ref t) K'.stack ((funFrames_hide K'.frames mem).of_keeps fun b o hb _ => ⟨o, hx.keeps b o hb, rfl⟩) rfl he (fun b o hb => hx.keeps b o (of_hideAll _ hb)) fresh hd rfl rfl fun h' hL => ?_
  obtain ⟨l1, ⟨_, _, l2⟩, l3, l4⟩ := hL
  exact hQ h' ⟨_, .ref t, inB, inG, inN, l1, fresh, l2, by rw [← hc]; exact l3⟩ (((Heap.UpToSlots.of_keeps F.keep).trans (Heap.UpToSlots.of_keeps hx.keeps)).trans l4)
end
end Xm
end

section
open PySem PySem.W PySem.Calls PyProof.Rows PySem.Spec
set_option maxRecDepth 100000
set_option maxHeartbeats 4000000
namespace Xm

theorem new_of {g h : Heap} {L : Addr} {news : List (Addr × Obj)} (N : News g L h news) : ∀ p ∈ news, h.get? p.1 = some p.2 ∧ g.get? p.1 = none := fun p hp => ⟨(N p hp).1, (N p hp).2.2⟩

theorem raised_sub {base G h : Heap} {l : List Env} {e : Addr} {cls : Value} {news news' : List (Addr × Obj)} (R : RaisedSN base G l e cls news h) (k : ∀ p ∈ news', p ∈ news) : RaisedSN base G l e cls news' h := by
  obtain ⟨B, a0, hB, hBG, hl, hfl⟩ := R
  exact ⟨B, a0, hB, hBG, fun q hq => hl q (k q hq), hfl⟩

section
variable {w : World} {A : Around} {E : Value → Shared → Prop} {s : Shared} {env : Env}
theorem Raise_sheetW {x : PySem.Expr} {pos : Pos} {Q : Flow → Shared → Prop} (hh : A.handled = none) (h : wpAny (model PySem.Challenge.rw_xm0717_01.row.prog w) A (PySem.eval x env) (RaisableO w E) E s) :
    wpAny (model PySem.Challenge.rw_xm0717_01.row.prog w) A (exec (.Raise (some x) none pos) env) Q E s := Raise_sheet hh h
theorem raisable_of {h₀ h' : Heap} {L e : Addr} {m : Str → Option Value} {tk : Nat} (F : Fr h₀ L s.heap m) (X : (hd.heap_39 w.params).In h₀) (hx : NewOf s.heap h' e (.ref 44)) (hE : E (.ref e) { s with heap := h', toks := tk }) :
    RaisableO w E (.ref e) { s with heap := h', toks := tk } := by
  obtain ⟨ob, t, he, hc, hd⟩ := hx.there
  obtain ⟨c, dx, dt, sl⟩ := ob
  dsimp only at hc hd
  subst hc hd
  exact ⟨e, dx, t, sl, rfl, (X.keeps F.keep).keeps hx.keeps, he, hE⟩
end

section
variable {w : World} {mean : ExcName → Option Value} {mg mb : Str → Option Value} {E : Value → Shared → Prop} {s : Shared} {base h₀ : Heap} {outer : List Env} {d u : Nat} {gs : Option (List Code)} {L : Addr} {m : Str → Option Value} {env : Env} {news : List (Addr × Obj)}

theorem call_ctr {lim : Nat} {f : Addr} {args : List Value} {small : List (Addr × Obj)} {Ok : Nat → Value → List (Addr × Obj) → Prop} {Er : List (Addr × Obj) → Prop} {Q : Value → Shared → Prop} (rest : List (Addr × Obj))
    (C : CtrAt w lim f args small Ok Er) (F : Fr h₀ L s.heap m) (B : Below ⟨none, d, some outer, gs, u⟩ base outer h₀) (X : (hd.heap_39 w.params).In h₀) (N : News h₀ L s.heap news)
    (T : Top hd.view_39 (looseW hd.view_39 [Str.ofString "ENDS"]) mean mg mb h₀) (hf : env.frame = some L) (hk : env.scope.kind = .function) (hdp : d + 1 + lim ≤ 400) (hup : u + 3 + 4 * lim ≤ 4000)
    (sub : ∀ p ∈ small, p ∈ news) (hr : ∀ p ∈ rest, p ∈ news ∧ p.1 ∉ small.map (·.1))
    (hok : ∀ v small' h' tk, Ok s.heap.objs.size v small' → (∀ p ∈ news, p.1 < s.heap.objs.size) → Fr h₀ L h' m → News h₀ L h' (small' ++ rest) → Q v { s with heap := h', toks := tk })
    (her : ∀ e small' h' tk g, Er small' → Fr h₀ L g m → RaisedSN base g (env :: outer) e (.ref 44) (small' ++ rest) h' → g.UpToSlots h' → E (.ref e) { s with heap := h', toks := tk }) :
    wpAny (model PySem.Challenge.rw_xm0717_01.row.prog w) ((⟨none, d, some outer, gs, u⟩ : Around).deeper env) (call (.ref f) args []) Q E s := by
  obtain ⟨S, Fg, hk⟩ := site_of (small := small) B F X N T hf hk sub
  have lt : ∀ p ∈ news, p.1 < s.heap.objs.size := fun p hp => Heap.lt_size (N p hp).1
  have hr' : ∀ p ∈ rest, p ∈ news ∧ (hideAll s.heap (small.map (·.1))).get? p.1 = some p.2 := fun p hp => ⟨(hr p hp).1, hk p (hr p hp).1 (hr p hp).2⟩
  refine wpAny_call (C mean mg mb (d + 1) (u + 3) gs base (env :: outer) _ s S hdp hup _ (fun v small' h' tk ok st new => ?_) fun e small' h' tk er R U => ?_)
  · obtain ⟨F', N'⟩ := back_of F Fg N st new hr'
    exact hok v small' h' tk ok lt F' N'
  · have nL : ∀ p ∈ news, p.1 ≠ L := fun p hp => (N p hp).2.1
    have n0 : ∀ p ∈ news, h₀.get? p.1 = none := fun p hp => (N p hp).2.2
    have out : ∀ p ∈ rest, p.1 ∉ (env :: outer).filterMap (·.frame) := fun p hp z => by
      rcases frames_two hf z with z | z
      · exact nL p (hr p hp).1 z
      · obtain ⟨o, ho, _⟩ := (B.frames.mem z).2
        rw [n0 p (hr p hp).1] at ho
        cases ho
    have sub' : ∀ b o, (hideAll (hideAll s.heap (small.map (·.1))) (rest.map (·.1))).get? b = some o → (hideAll s.heap (small.map (·.1))).get? b = some o := fun b o e => of_hideAll _ e
    have Fg' : Fr h₀ L (hideAll (hideAll s.heap (small.map (·.1))) (rest.map (·.1))) m := by
      obtain ⟨oL, es, ep, hL, r⟩ := Fg.ns
      refine ⟨⟨oL, es, ep, hideAll_get _ hL fun z => ?_, r⟩, fun b o e => hideAll_get _ (Fg.keep b o e) fun z => ?_, Fg.above⟩
      · obtain ⟨p, hp, q⟩ := List.mem_map.mp z
        exact nL p (hr p hp).1 q
      · obtain ⟨p, hp, q⟩ := List.mem_map.mp z
        have := n0 p (hr p hp).1
        have q' : p.1 = b := q
        rw [q', e] at this
        cases this
    refine her e small' h' tk _ er Fg' ?_ fun b o e hn => U b o (sub' b o e) hn
    obtain ⟨B', a0, hB, hBG, hl, hfl⟩ := R
    refine ⟨B', a0, hB, fun b o e nm => hBG b o (sub' b o e) nm, fun q hq => ?_, hfl⟩
    rcases List.mem_append.mp hq with z | z
    · refine ⟨(hl q z).1, kts_none sub' (hl q z).2.1, (hl q z).2.2⟩
    · exact ⟨hBG _ _ (hr' q z).2 (out q z), hideAll_none _ (List.mem_map_of_mem z), fresh_of_stays B.stays (n0 q (hr q z).1)⟩

/-- a contract that asks for nothing of the ledger -/
theorem call_ctr0 {lim : Nat} {f : Addr} {args : List Value} {Ok : Nat → Value → List (Addr × Obj) → Prop} {Er : List (Addr × Obj) → Prop} {Q : Value → Shared → Prop}
    (C : CtrAt w lim f args [] Ok Er) (F : Fr h₀ L s.heap m) (B : Below ⟨none, d, some outer, gs, u⟩ base outer h₀) (X : (hd.heap_39 w.params).In h₀) (N : News h₀ L s.heap news)
    (T : Top hd.view_39 (looseW hd.view_39 [Str.ofString "ENDS"]) mean mg mb h₀) (hf : env.frame = some L) (hk : env.scope.kind = .function) (hdp : d + 1 + lim ≤ 400) (hup : u + 3 + 4 * lim ≤ 4000)
    (hok : ∀ v small' h' tk, Ok s.heap.objs.size v small' → (∀ p ∈ news, p.1 < s.heap.objs.size) → Fr h₀ L h' m → News h₀ L h' (small' ++ news) → Q v { s with heap := h', toks := tk })
    (her : ∀ e small' h' tk g, Er small' → Fr h₀ L g m → RaisedSN base g (env :: outer) e (.ref 44) (small' ++ news) h' → g.UpToSlots h' → E (.ref e) { s with heap := h', toks := tk }) :
    wpAny (model PySem.Challenge.rw_xm0717_01.row.prog w) ((⟨none, d, some outer, gs, u⟩ : Around).deeper env) (call (.ref f) args []) Q E s :=
  call_ctr news C F B X N T hf hk hdp hup (List.forall_mem_nil _) (fun p hp => ⟨hp, List.not_mem_nil⟩) hok her

/-- a contract whose ledger stands at the head of the caller's -/
theorem call_ctrS {lim : Nat} {f : Addr} {args : List Value} {small rest : List (Addr × Obj)} {Ok : Nat → Value → List (Addr × Obj) → Prop} {Er : List (Addr × Obj) → Prop} {Q : Value → Shared → Prop}
    (C : CtrAt w lim f args small Ok Er) (F : Fr h₀ L s.heap m) (B : Below ⟨none, d, some outer, gs, u⟩ base outer h₀) (X : (hd.heap_39 w.params).In h₀) (N : News h₀ L s.heap (small ++ rest))
    (T : Top hd.view_39 (looseW hd.view_39 [Str.ofString "ENDS"]) mean mg mb h₀) (hf : env.frame = some L) (hk : env.scope.kind = .function) (hdp : d + 1 + lim ≤ 400) (hup : u + 3 + 4 * lim ≤ 4000)
    (hr : ∀ p ∈ rest, p.1 ∉ small.map (·.1))
    (hok : ∀ v small' h' tk, Ok s.heap.objs.size v small' → (∀ p ∈ small ++ rest, p.1 < s.heap.objs.size) → Fr h₀ L h' m → News h₀ L h' (small' ++ rest) → Q v { s with heap := h', toks := tk })
    (her : ∀ e small' h' tk g, Er small' → Fr h₀ L g m → RaisedSN base g (env :: outer) e (.ref 44) (small' ++ rest) h' → g.UpToSlots h' → E (.ref e) { s with heap := h', toks := tk }) :
    wpAny (model PySem.Challenge.rw_xm0717_01.row.prog w) ((⟨none, d, some outer, gs, u⟩ : Around).deeper env) (call (.ref f) args []) Q E s :=
  call_ctr rest C F B X N T hf hk hdp hup (fun p hp => List.mem_append_left _ hp) (fun p hp => ⟨List.mem_append_right _ hp, hr p hp⟩) hok her

/-- a contract whose ledger stands within the caller's -/
theorem call_ctrP {lim : Nat} {f : Addr} {args : List Value} {pre small rest : List (Addr × Obj)} {Ok : Nat → Value → List (Addr × Obj) → Prop} {Er : List (Addr × Obj) → Prop} {Q : Value → Shared → Prop}
    (C : CtrAt w lim f args small Ok Er) (F : Fr h₀ L s.heap m) (B : Below ⟨none, d, some outer, gs, u⟩ base outer h₀) (X : (hd.heap_39 w.params).In h₀) (N : News h₀ L s.heap (pre ++ (small ++ rest)))
    (T : Top hd.view_39 (looseW hd.view_39 [Str.ofString "ENDS"]) mean mg mb h₀) (hf : env.frame = some L) (hk : env.scope.kind = .function) (hdp : d + 1 + lim ≤ 400) (hup : u + 3 + 4 * lim ≤ 4000)
    (hr : ∀ p ∈ pre ++ rest, p.1 ∉ small.map (·.1))
    (hok : ∀ v small' h' tk, Ok s.heap.objs.size v small' → (∀ p ∈ pre ++ (small ++ rest), p.1 < s.heap.objs.size) → Fr h₀ L h' m → News h₀ L h' (small' ++ (pre ++ rest)) → Q v { s with heap := h', toks := tk })
    (her : ∀ e small' h' tk g, Er small' → Fr h₀ L g m → RaisedSN base g (env :: outer) e (.ref 44) (small' ++ (pre ++ rest)) h' → g.UpToSlots h' → E (.ref e) { s with heap := h', toks := tk }) :
    wpAny (model PySem.Challenge.rw_xm0717_01.row.prog w) ((⟨none, d, some outer, gs, u⟩ : Around).deeper env) (call (.ref f) args []) Q E s :=
  call_ctr (pre ++ rest) C F B X N T hf hk hdp hup (fun p hp => List.mem_append_right _ (List.mem_append_left _ hp))
    (fun p hp => ⟨(List.mem_append.mp hp).elim (fun z => List.mem_append_left _ z) (fun z => List.mem_append_right _ (List.mem_append_right _ z)), hr p hp⟩) hok her
end
end Xm
end

section
open PySem PySem.W PySem.Calls PyProof.Rows PySem.Spec
set_option maxRecDepth 100000
set_option maxHeartbeats 4000000
namespace Xm
section
variable {w : World} {mean : ExcName → Option Value} {mg mb : Str → Option Value} {A : Around} {base g : Heap} {outer : List Env} {s : Shared} {small : List (Addr × Obj)}

/-- as enter, of a def with captured locals -/
theorem enterC {R : Result → Shared → Prop} {name qual : Str} {params : Arguments} {body : List Stmt} {scope : Scope} {dV kV doc pm cdv ct oc : Value} {an od : Option Addr} {osl : Array (Option Value)} {f : Addr} {args : Args} {binds : List (Str × Value)}
    (S : Site w mean mg mb A base outer g s small)
    (ho : (hd.heap_39 w.params).lookup f = some ⟨oc, od, .func (fnOf name qual params body scope dV kV doc pm an cdv ct), osl⟩) (hcd : codeIn (hd.heap_39 w.params) cdv qual = true) (hroom : A.depth < recursionLimit)
    (hbind : BindsTo s (fnOf name qual params body scope dV kV doc pm an cdv ct) args binds)
    (hkind : (binds.all fun y => scope.names.lookup y.1 == some .local || scope.names.lookup y.1 == some .cell) = true)
    (hnd : ((cellsFrom 0 scope.names []).map (·.1)).Nodup)
    (h : ∀ L' h₁ tk cells, Fr g L' h₁ (bindL (envOfC qual scope L' f cdv).kindOf binds fun _ => none) → News g L' h₁ (cells ++ small) →
      CellsAre (bindC (envOfC qual scope L' f cdv).kindOf binds fun _ => none) (cellsFrom (L' + 1) scope.names []) cells → (∀ p ∈ small, p.1 < L') →
      wpAny (model PySem.Challenge.rw_xm0717_01.row.prog w) (A.deeper (envOfC qual scope L' f cdv)) (execs body (envOfC qual scope L' f cdv))
        (fun fl s' => R (.ok (.ret (match fl with | .ret v => v | _ => .none))) s')
        (fun e s' => wpAny (model PySem.Challenge.rw_xm0717_01.row.prog w) (A.deeper (envOfC qual scope L' f cdv)) (leaving (envOfC qual scope L' f cdv) e) (fun _ s'' => R (.error e) s'') (fun e' s'' => R (.error e') s'') s')
        { s with heap := h₁, toks := tk })
    (hco : scope.isCoroutine = false) (hgen : scope.isGenerator = false) (hk : scope.kind = .function) : codeAny (model PySem.Challenge.rw_xm0717_01.row.prog w) A (.call (.ref f) args) R s := by
  have X := S.kin.keeps S.stays
  refine codeAny_call_function hroom (X _ _ ho) rfl hco hgen rfl (codeRec_of X hcd) (hbind _ _ _ _ ?_)
  refine wpAny_newFunctionEnv_cells hk (kindsX hkind _) fun env' he s' x => ?_
  subst he
  refine ⟨(S.top.nolimit.keeps S.stays).keeps x.toInCall.keep, codeAny_func ?_⟩
  obtain ⟨h₁, tk, rfl, _⟩ := x.done
  have hk₁ := x.toInCall.keep
  obtain ⟨cells, NC, Y⟩ := Cl.news (h₀ := s.heap) (Nat.le_refl _) fun n c hm => ⟨x.cell n c (lookup_of_mem_nodup (cellsFrom_names scope.names 0 (s.heap.objs.size + 1) [] [] rfl ▸ hnd) hm), x.above n c hm⟩
  refine h s.heap.objs.size h₁ tk cells ⟨x.toInCall.ns, fun b o e => hk₁ b o (S.stays b o e), S.size⟩ (fun p hp => ?_) Y fun p hp => Heap.lt_size (S.new p hp).1
  rcases List.mem_append.mp hp with q | q
  · refine ⟨(NC p q).1, (NC p q).2.1, ?_⟩
    cases z : g.get? p.1 with
    | none => rfl
    | some o =>
      have := S.stays _ _ z
      rw [(NC p q).2.2] at this
      cases this
  · exact ⟨hk₁ _ _ (S.new p q).1, Nat.ne_of_lt (Heap.lt_size (S.new p q).1), (S.new p q).2⟩
end

section
variable {M : Model} {A : Around} {E : Value → Shared → Prop} {s' : Shared} {base g h : Heap} {outer : List Env} {L e : Addr} {m : Str → Option Value} {env : Env} {Q : Unit → Shared → Prop} {news : List (Addr × Obj)}
/-- the first frame that a new exception leaves, whatever its cells -/
theorem leave_newE {cls : Value} (K : Below A base outer g) (hx : NewOf h s'.heap e cls) (F : Fr g L h m) (N : News g L h news) (hf : env.frame = some L) (hk : env.scope.kind = .function)
    (hQ : ∀ h', RaisedSN base g outer e cls news h' → g.UpToSlots h' → Q () { s' with heap := h' }) :
    wpAny M (A.deeper env) (leaving env (.ref e)) Q E s' := by
  have K' := below_push K F hf hk
  let fs := (env :: outer).filterMap (·.frame)
  have mem : ∀ env' ∈ (env :: outer), ∀ b, env'.frame = some b → b ∈ fs := fun env' he b hb => List.mem_filterMap.mpr ⟨env', he, hb⟩
  have two : ∀ {b}, b ∈ fs → b = L ∨ b ∈ outer.filterMap (·.frame) := fun {b} hm => frames_two hf hm
  have inB : base.StaysIn (hideAll h fs) := fun b o q => hideAll_get _ (K'.stays b o q) fun z => by
    rw [(K'.frames.mem z).1] at q
    cases q
  have inG : ∀ b o, g.get? b = some o → b ∉ outer.filterMap (·.frame) → (hideAll h fs).get? b = some o := fun b o q nm => hideAll_get _ (F.keep b o q) fun z => by
    rcases two z with z | z
    · rw [z, kts_self F] at q
      cases q
    · exact nm z
  have inN : ∀ q ∈ news, (hideAll h fs).get? q.1 = some q.2 ∧ g.get? q.1 = none ∧ base.get? q.1 = none := fun q hq => by
    refine ⟨hideAll_get _ (N q hq).1 fun z => ?_, (N q hq).2.2, fresh_of_stays K.stays (N q hq).2.2⟩
    rcases two z with z | z
    · exact (N q hq).2.1 z
    · obtain ⟨o, ho, _⟩ := (K.frames.mem z).2
      rw [(N q hq).2.2] at ho
      cases ho
  obtain ⟨ob, t, he, hc, hd⟩ := hx.there
  have fresh : (hideAll h fs).get? e = none := by
    cases q : (hideAll h fs).get? e with
    | none => rfl
    | some o =>
      have := of_hideAll _ q
      rw [hx.new] at this
      cases this
  refine wpAny_leaving_firstW (a0 := .ref t) K'.stack ((funFrames_hide K'.frames mem).of_keeps fun b o hb _ => ⟨o, hx.keeps b o hb, rfl⟩) hf he (fun b o hb => hx.keeps b o (of_hideAll _ hb)) fresh hd rfl rfl fun h' hL => ?_
  obtain ⟨l1, ⟨_, _, l2⟩, l3, l4⟩ := hL
  exact hQ h' ⟨_, .ref t, inB, inG, inN, l1, fresh, l2, by rw [← hc]; exact l3⟩ (((Heap.UpToSlots.of_keeps F.keep).trans (Heap.UpToSlots.of_keeps hx.keeps)).trans l4)
end
end Xm
end

section
open PySem PySem.W PySem.Calls PyProof.Rows PySem.Spec
set_option maxRecDepth 100000
namespace Xm
open Builtin.Str (occurrences subAt strSub)

def isBlank (c : Nat) : Bool := decide (c ∈ [32, 9, 10, 13])
def isEnd (c : Nat) : Bool := decide (c ∈ [32, 9, 10, 13, 61, 47, 62, 60, 34, 39])
def notEnd (c : Nat) : Bool := !isEnd c
def noBegin (c : Nat) : Bool := decide (c ∈ [33, 63, 38, 59, 35, 91, 93, 45, 46, 48, 49, 50, 51, 52, 53, 54, 55, 56, 57])
/-- the first place at or behind i whose sign is not p's -/
def runEnd (p : Nat → Bool) (T : PySem.Str) (i : Int) : Int := i + (((T.cps.toList.drop i.toNat).takeWhile p).length : Int)

/-- whether a name begins at i -/
def nameOk (T : PySem.Str) (i : Int) : Bool := decide (runEnd notEnd T i ≠ i) && match T.cps.toList[i.toNat]? with
  | some c => !noBegin c
  | none => false

theorem item_get {T : PySem.Str} {i : Int} (h0 : 0 ≤ i) (h1 : i < T.length) : ∃ c, T.cps.toList[i.toNat]? = some c ∧ Txt.item T i = ⟨#[c]⟩ ∧ T.cps.toList.drop i.toNat = c :: T.cps.toList.drop (i.toNat + 1) := by
  have hl : i.toNat < T.cps.toList.length := by
    have h1' : i < ((T.cps.toList.length : Nat) : Int) := by simpa [PySem.Str.length] using h1
    omega
  refine ⟨T.cps.toList[i.toNat], List.getElem?_eq_getElem hl, item_meets h0 ?_, List.drop_eq_getElem_cons hl⟩
  rw [← Array.getElem?_toList]
  exact List.getElem?_eq_getElem hl

theorem found_mem (x : PySem.Str) (c : Nat) : (occurrences x ⟨#[c]⟩ 0 x.length 1).isEmpty = !decide (c ∈ x.cps.toList) := by
  have h := StrLaws.found_one x c
  rw [← h, Bool.not_not]

theorem blanks_in {T : PySem.Str} {i : Int} {b : Bool} (h0 : 0 ≤ i) (h1 : i < T.length) (h : (occurrences (PySem.Str.ofString " \t\n\x0d") (Txt.item T i) 0 (PySem.Str.ofString " \t\n\x0d").length 1).isEmpty = b) :
    ∃ c, T.cps.toList.drop i.toNat = c :: T.cps.toList.drop (i.toNat + 1) ∧ isBlank c = !b := by
  obtain ⟨c, -, hi, hd⟩ := item_get h0 h1
  refine ⟨c, hd, ?_⟩
  rw [hi, found_mem] at h
  rw [← h, Bool.not_not]
  rfl

section
variable {p : Nat → Bool} {T : PySem.Str} {i : Int}
theorem runEnd_over (h1 : (T.length : Int) ≤ i) : runEnd p T i = i := by
  unfold runEnd
  have : T.cps.toList.drop i.toNat = [] := List.drop_eq_nil_of_le (by
    have : T.length = T.cps.toList.length := by simp [PySem.Str.length]
    omega)
  rw [this]
  simp
theorem runEnd_no {c : Nat} {r : List Nat} (h : T.cps.toList.drop i.toNat = c :: r) (hp : p c = false) : runEnd p T i = i := by
  unfold runEnd
  rw [h, List.takeWhile_cons, hp]
  simp
theorem runEnd_yes {c : Nat} (h0 : 0 ≤ i) (h : T.cps.toList.drop i.toNat = c :: T.cps.toList.drop (i.toNat + 1)) (hp : p c = true) : runEnd p T i = runEnd p T (i + 1) := by
  unfold runEnd
  rw [h, List.takeWhile_cons, hp]
  have e : (i + 1).toNat = i.toNat + 1 := by omega
  rw [e]
  simp only [if_true, List.length_cons]
  omega
theorem runEnd_le (h0 : 0 ≤ i) (h1 : i ≤ T.length) : i ≤ runEnd p T i ∧ runEnd p T i ≤ T.length := by
  unfold runEnd
  have h2 := (List.takeWhile_prefix (l := T.cps.toList.drop i.toNat) p).length_le
  rw [List.length_drop] at h2
  have : T.length = T.cps.toList.length := by simp [PySem.Str.length]
  omega
end
end Xm
namespace Xm
open Builtin.Str (occurrences subAt strSub)
theorem ends_in {T : PySem.Str} {i : Int} {b : Bool} (h0 : 0 ≤ i) (h1 : i < T.length) (h : (occurrences (PySem.Str.ofString " \t\n\x0d=/><\"'") (Txt.item T i) 0 (PySem.Str.ofString " \t\n\x0d=/><\"'").length 1).isEmpty = b) :
    ∃ c, T.cps.toList.drop i.toNat = c :: T.cps.toList.drop (i.toNat + 1) ∧ notEnd c = b := by
  obtain ⟨c, -, hi, hd⟩ := item_get h0 h1
  refine ⟨c, hd, ?_⟩
  rw [hi, found_mem] at h
  rw [← h]
  rfl
theorem name_end {T : PySem.Str} {i j : Int} (h0 : 0 ≤ i) (hJ : runEnd notEnd T i = runEnd notEnd T j)
    (h : (T.length : Int) ≤ i ∨ (occurrences (PySem.Str.ofString " \t\n\x0d=/><\"'") (Txt.item T i) 0 (PySem.Str.ofString " \t\n\x0d=/><\"'").length 1).isEmpty = false) : runEnd notEnd T j = i := by
  rw [← hJ]
  rcases Int.lt_or_le i T.length with z | z
  · rcases h with h | h
    · exact runEnd_over h
    · obtain ⟨c, hd, hp⟩ := ends_in h0 z h
      exact runEnd_no hd hp
  · exact runEnd_over z
theorem name_bad1 {T : PySem.Str} {i : Int} (h : runEnd notEnd T i = i) : nameOk T i = false := by
  unfold nameOk
  rw [h]
  simp
theorem begin_in {T : PySem.Str} {i : Int} {b : Bool} (h0 : 0 ≤ i) (h1 : i ≤ T.length) (hne : runEnd notEnd T i ≠ i)
    (h : (occurrences (PySem.Str.ofString "!?&;#[]-.0123456789") (Txt.item T i) 0 (PySem.Str.ofString "!?&;#[]-.0123456789").length 1).isEmpty = b) : nameOk T i = b := by
  have hlt : i < T.length := by
    rcases Int.lt_or_le i T.length with z | z
    · exact z
    · exact absurd (runEnd_over z) hne
  obtain ⟨c, hc, hi, hd⟩ := item_get h0 hlt
  rw [hi, found_mem] at h
  unfold nameOk
  rw [hc, ← h]
  simp only [hne, ne_eq, not_false_eq_true, decide_true, Bool.true_and]
  rfl
end Xm
end

section
open PySem PySem.W PySem.Calls PyProof.Rows PySem.Spec
set_option maxRecDepth 100000
namespace Xm
open Builtin.Str (occurrences subAt strSub)

theorem len_toList (T : PySem.Str) : T.length = T.cps.toList.length := by simp [PySem.Str.length]

theorem slice_eq {T : PySem.Str} {i j : Int} (h0 : 0 ≤ i) (h1 : i ≤ j) (h2 : j ≤ T.length) : Txt.slice T (some i) (some j) = ⟨((T.cps.toList.drop i.toNat).take (j - i).toNat).toArray⟩ := by
  have h2' : j ≤ ((T.cps.toList.length : Nat) : Int) := by rw [← len_toList]; exact h2
  exact eq_of_beq (slice_closes ⟨h0, h1, h2'⟩)

/-- the signs ahead of the first c, and what begins with it -/
def ahead (c : Nat) (l : List Nat) : List Nat := l.takeWhile (· != c)
def from_ (c : Nat) (l : List Nat) : List Nat := l.dropWhile (· != c)

theorem fromIndex_nn {n : Nat} {i : Int} (h0 : 0 ≤ i) : fromIndex n i = i.toNat := by
  unfold fromIndex
  rw [if_neg (by omega)]
  omega

theorem getD_drop {T : PySem.Str} {v i : Nat} (hv : i + v < T.length) : (T.cps.toList.drop i)[v]? = some (T.cps.getD (i + v) 0) := by
  have h := StrLaws.getElem?_of_getD (x := T) (v := i + v) (c := T.cps.getD (i + v) 0) hv rfl
  rw [List.getElem?_drop]
  exact h

theorem ahead_none {c : Nat} : ∀ {l : List Nat}, (∀ v : Nat, l[v]? ≠ some c) → ahead c l = l ∧ from_ c l = []
  | [], _ => ⟨rfl, rfl⟩
  | a :: l, h => by
    have ha : a ≠ c := fun e => h 0 (by rw [e]; rfl)
    have ih := ahead_none (l := l) fun v => h (v + 1)
    have hb : (a != c) = true := by simpa using ha
    unfold ahead from_ at *
    rw [List.takeWhile_cons, List.dropWhile_cons, hb]
    simp only [if_true]
    exact ⟨by rw [ih.1], ih.2⟩
theorem ahead_at {c : Nat} : ∀ {l : List Nat} {k : Nat}, l[k]? = some c → (∀ v : Nat, v < k → l[v]? ≠ some c) → ahead c l = l.take k ∧ from_ c l = c :: l.drop (k + 1)
  | [], k, h, _ => by simp at h
  | a :: l, 0, h, _ => by
    have ha : a = c := by simpa using h
    subst ha
    unfold ahead from_
    simp
  | a :: l, k + 1, h, hn => by
    have ha : a ≠ c := fun e => hn 0 (Nat.succ_pos _) (by rw [e]; rfl)
    have ih := ahead_at (l := l) (k := k) (by simpa using h) fun v hv => by
      have := hn (v + 1) (Nat.succ_lt_succ hv)
      simpa using this
    have hb : (a != c) = true := by simpa using ha
    unfold ahead from_ at *
    rw [List.takeWhile_cons, List.dropWhile_cons, hb]
    simp only [if_true]
    exact ⟨by rw [ih.1]; rfl, by rw [ih.2]; rfl⟩

theorem find_cases {T : PySem.Str} {i : Int} (c : Nat) (h0 : 0 ≤ i) :
    (Txt.find3 T ⟨#[c]⟩ i = -1 ∧ ahead c (T.cps.toList.drop i.toNat) = T.cps.toList.drop i.toNat ∧ from_ c (T.cps.toList.drop i.toNat) = []) ∨
    ∃ k : Nat, Txt.find3 T ⟨#[c]⟩ i = i + k ∧ i + k < T.length ∧ ahead c (T.cps.toList.drop i.toNat) = (T.cps.toList.drop i.toNat).take k ∧ from_ c (T.cps.toList.drop i.toNat) = c :: T.cps.toList.drop (i.toNat + k + 1) := by
  have F := StrLaws.find3_spec T c i
  rw [fromIndex_nn h0] at F
  rcases F with ⟨hf, hn⟩ | ⟨k, hf, hk, hl, hc, hn⟩
  · refine .inl ⟨hf, ahead_none fun v hv => ?_⟩
    by_cases hlt : i.toNat + v < T.length
    · rw [getD_drop hlt] at hv
      exact hn (i.toNat + v) (by omega) hlt (Option.some.inj hv)
    · rw [List.getElem?_drop, List.getElem?_eq_none (by rw [← len_toList]; omega)] at hv
      cases hv
  · refine .inr ⟨k - i.toNat, by rw [hf]; omega, by omega, ?_⟩
    have e : i.toNat + (k - i.toNat) = k := by omega
    have h1 : (T.cps.toList.drop i.toNat)[k - i.toNat]? = some c := by
      rw [getD_drop (by omega), e, hc]
    have h2 := ahead_at h1 fun v hv hvc => by
      rw [getD_drop (by omega)] at hvc
      exact hn (i.toNat + v) (by omega) (by omega) (Option.some.inj hvc)
    refine ⟨h2.1, ?_⟩
    rw [h2.2, List.drop_drop]
    congr 2
end Xm
namespace Xm
/-- what a word behind an ampersand stands for: none, a word of which nothing is said; some none, a word that is refused -/
def signWord : List Nat → Option (Option Nat)
  | [108, 116] => some (some 60)
  | [35, 54, 53] => some (some 65)
  | [35, 120, 51, 69] => some (some 62)
  | [120] => some none
  | [35, 48] => some none
  | [] => some none
  | [32] => some none
  | _ => none
/-- a text without its references: none, nothing is said; some none, it is refused -/
def unescF : Nat → List Nat → Option (Option (List Nat))
  | 0, _ => none
  | _ + 1, [] => some (some [])
  | n + 1, a :: l => match from_ 38 (a :: l) with
    | [] => some (some (a :: l))
    | b :: r => match from_ 59 (b :: r) with
      | [] => some none
      | _ :: q => match signWord (ahead 59 (b :: r)).tail with
        | none => none
        | some none => some none
        | some (some c) => (unescF n q).map fun x => x.map fun m => ahead 38 (a :: l) ++ c :: m

theorem unescF_nil {n : Nat} {r : Option (List Nat)} (h : unescF n [] = some r) : r = some [] := by
  cases n with
  | zero => cases h
  | succ n => exact (Option.some.inj h).symm

theorem drop_len {T : PySem.Str} {i : Int} (h0 : 0 ≤ i) (h1 : i < T.length) : ∃ a l, T.cps.toList.drop i.toNat = a :: l := by
  obtain ⟨c, -, -, hd⟩ := item_get h0 h1
  exact ⟨_, _, hd⟩

theorem unesc_plain {T : PySem.Str} {i : Int} {n : Nat} {r : Option (List Nat)} (h0 : 0 ≤ i) (h1 : i < T.length) (h : unescF n (T.cps.toList.drop i.toNat) = some r) (hf : Txt.find3 T ⟨#[38]⟩ i < 0) : r = some (T.cps.toList.drop i.toNat) := by
  rcases find_cases (T := T) 38 h0 with ⟨_, _, hF⟩ | ⟨k, hk, _⟩
  · obtain ⟨a, l, e⟩ := drop_len h0 h1
    rw [e] at h hF ⊢
    cases n with
    | zero => cases h
    | succ n =>
      unfold unescF at h
      rw [hF] at h
      exact (Option.some.inj h).symm
  · omega

theorem unesc_amp {T : PySem.Str} {i k : Int} {n : Nat} {r : Option (List Nat)} (h0 : 0 ≤ i) (h1 : i < T.length) (h : unescF n (T.cps.toList.drop i.toNat) = some r) (hf : Txt.find3 T ⟨#[38]⟩ i = k) (hk : 0 ≤ k) :
    i ≤ k ∧ k < T.length ∧ (Txt.find3 T ⟨#[59]⟩ k < 0 → r = none) ∧ (0 ≤ Txt.find3 T ⟨#[59]⟩ k → k + 1 ≤ Txt.find3 T ⟨#[59]⟩ k ∧ Txt.find3 T ⟨#[59]⟩ k < T.length ∧
      ∃ sg, signWord ((T.cps.toList.drop (k + 1).toNat).take (Txt.find3 T ⟨#[59]⟩ k - (k + 1)).toNat) = some sg ∧ (sg = none → r = none) ∧
        ∀ c, sg = some c → ∃ n' r', unescF n' (T.cps.toList.drop (Txt.find3 T ⟨#[59]⟩ k + 1).toNat) = some r' ∧ r = r'.map fun m => (T.cps.toList.drop i.toNat).take (k - i).toNat ++ c :: m) := by
  rcases find_cases (T := T) 38 h0 with ⟨z, _, _⟩ | ⟨j, hj, hl, hA, hF⟩
  · omega
  have ek : k = i + j := by omega
  subst ek
  have hD : T.cps.toList.drop (i + j).toNat = 38 :: T.cps.toList.drop (i.toNat + j + 1) := by
    obtain ⟨c, hc, -, hd⟩ := item_get (T := T) (i := i + j) hk hl
    have e1 : (i + j).toNat = i.toNat + j := by omega
    rw [e1] at hd hc ⊢
    rw [hd]
    congr 1
    have : from_ 38 (T.cps.toList.drop i.toNat) = c :: T.cps.toList.drop (i.toNat + j + 1) := by
      have hlen : (ahead 38 (T.cps.toList.drop i.toNat)).length = j := by
        rw [hA, List.length_take, List.length_drop, ← len_toList]
        omega
      have := List.takeWhile_append_dropWhile (p := (· != 38)) (l := T.cps.toList.drop i.toNat)
      have e2 : from_ 38 (T.cps.toList.drop i.toNat) = (T.cps.toList.drop i.toNat).drop j := by
        conv => rhs; rw [← this]
        unfold ahead at hlen
        rw [List.drop_append, hlen]
        unfold from_
        simp [List.drop_eq_nil_of_le (Nat.le_of_eq hlen)]
      rw [e2, List.drop_drop]
      exact hd
    rw [hF] at this
    exact (List.cons.inj this).1.symm
  refine ⟨by omega, hl, ?_⟩
  obtain ⟨a, l, e⟩ := drop_len h0 h1
  cases n with
  | zero => cases h
  | succ n =>
    rw [e] at h hF hA
    unfold unescF at h
    rw [hF] at h
    dsimp only at h
    rw [← hD] at h
    rcases find_cases (T := T) 59 hk with ⟨z, _, hF2⟩ | ⟨j2, hj2, hl2, hA2, hF2⟩
    · rw [hF2] at h
      exact ⟨fun _ => (Option.some.inj h).symm, fun z' => by omega⟩
    · rw [hF2] at h
      dsimp only at h
      have hj0 : j2 ≠ 0 := fun z => by
        subst z
        rw [hD] at hF2
        have : from_ 59 (38 :: T.cps.toList.drop (i.toNat + j + 1)) = from_ 59 (T.cps.toList.drop (i.toNat + j + 1)) := rfl
        have hA3 : ahead 59 (38 :: T.cps.toList.drop (i.toNat + j + 1)) = 38 :: ahead 59 (T.cps.toList.drop (i.toNat + j + 1)) := rfl
        rw [hD, hA3] at hA2
        cases hA2
      have hw : (ahead 59 (T.cps.toList.drop (i + j).toNat)).tail = (T.cps.toList.drop (i + j + 1).toNat).take (Txt.find3 T ⟨#[59]⟩ (i + j) - (i + j + 1)).toNat := by
        obtain ⟨j3, rfl⟩ := Nat.exists_eq_succ_of_ne_zero hj0
        rw [hA2, hD, List.take_succ_cons, List.tail_cons, hj2]
        congr 1
        · omega
        · congr 1; omega
      rw [hw] at h
      refine ⟨fun z => by omega, fun _ => ⟨by omega, by omega, ?_⟩⟩
      cases hs : signWord ((T.cps.toList.drop (i + j + 1).toNat).take (Txt.find3 T ⟨#[59]⟩ (i + j) - (i + j + 1)).toNat) with
      | none => rw [hs] at h; cases h
      | some sg =>
        rw [hs] at h
        refine ⟨sg, rfl, fun z => ?_, fun c z => ?_⟩
        · subst z
          exact (Option.some.inj h).symm
        · subst z
          dsimp only at h
          have eq : (i + j).toNat + j2 + 1 = (Txt.find3 T ⟨#[59]⟩ (i + j) + 1).toNat := by omega
          rw [eq] at h
          cases hu : unescF n (T.cps.toList.drop (Txt.find3 T ⟨#[59]⟩ (i + j) + 1).toNat) with
          | none => rw [hu] at h; cases h
          | some r' =>
            rw [hu] at h
            refine ⟨n, r', hu, ?_⟩
            have h' := (Option.some.inj h).symm
            rw [h', hA, e]
            congr 2
            have : (i + (j : Int) - i).toNat = j := by omega
            rw [this]
end Xm
namespace Xm
theorem amp_mk : PySem.Str.ofString "&" = ⟨#[38]⟩ := by decide +kernel
theorem semi_mk : PySem.Str.ofString ";" = ⟨#[59]⟩ := by decide +kernel
/-- the texts of a list, put together -/
def catS (ys : List PySem.Str) : List Nat := (ys.map (·.cps.toList)).flatten
theorem catS_snoc (ys : List PySem.Str) (y : PySem.Str) : catS (ys ++ [y]) = catS ys ++ y.cps.toList := by simp [catS]
theorem strs_snoc {y : PySem.Str} {t : Tok} : ∀ {vs : List Value} {ys : List PySem.Str}, StrsAre vs ys → StrsAre (vs ++ [.str y t]) (ys ++ [y])
  | _, _, .nil => .cons y t .nil
  | _, _, .cons z u h => .cons z u (strs_snoc h)
theorem strs_push {y : PySem.Str} {t : Tok} {its : Array Value} {ys : List PySem.Str} (h : StrsAre its.toList ys) : StrsAre (its.push (.str y t)).toList (ys ++ [y]) := by
  rw [Array.toList_push]
  exact strs_snoc h
theorem strs_len : ∀ {vs : List Value} {ys : List PySem.Str}, StrsAre vs ys → vs.length = ys.length
  | _, _, .nil => rfl
  | _, _, .cons _ _ h => by rw [List.length_cons, List.length_cons, strs_len h]
theorem catS_join (ys : List PySem.Str) : (PySem.Str.join (PySem.Str.ofString "") ys) = ⟨(catS ys).toArray⟩ := by
  have e0 : PySem.Str.ofString "" = ⟨#[]⟩ := by decide +kernel
  rw [e0]
  have key : ∀ ys : List PySem.Str, (PySem.Str.join ⟨#[]⟩ ys).cps.toList = catS ys := by
    intro ys
    induction ys with
    | nil => rfl
    | cons y r ih =>
      cases r with
      | nil => simp [PySem.Str.join, catS]
      | cons z q =>
        show ((y ++ ⟨#[]⟩ ++ PySem.Str.join ⟨#[]⟩ (z :: q) : PySem.Str)).cps.toList = _
        rw [PySem.Str.cps_append, PySem.Str.cps_append, Array.toList_append, Array.toList_append, ih]
        simp [catS]
  refine PySem.Str.ext' ?_
  rw [← Array.toList_inj, key]
theorem slice_len {T : PySem.Str} {i j : Int} (h0 : 0 ≤ i) (h1 : i ≤ j) (h2 : j ≤ T.length) : ((Txt.slice T (some i) (some j)).length : Int) = j - i := by
  rw [slice_eq h0 h1 h2, len_toList]
  simp only [List.length_take, List.length_drop]
  have := len_toList T
  omega
end Xm
namespace Xm
theorem end_plain {T : PySem.Str} {i : Int} {n : Nat} {ys : List PySem.Str} {r r' : Option (List Nat)} (hi0 : 0 ≤ i) (hlt : i < T.length) (hu : unescF n (T.cps.toList.drop i.toNat) = some r') (hf : Txt.find3 T (PySem.Str.ofString "&") i < 0)
    (hrr : r = r'.map fun m => catS ys ++ m) : ∃ n' r'', unescF n' (T.cps.toList.drop (T.length : Int).toNat) = some r'' ∧ r = r''.map fun m => catS (ys ++ [Txt.slice T (some i) (some (T.length : Int))]) ++ m := by
  rw [amp_mk] at hf
  have h := unesc_plain hi0 hlt hu hf
  subst h
  refine ⟨1, some [], ?_, ?_⟩
  · have : T.cps.toList.drop (T.length : Int).toNat = [] := List.drop_eq_nil_of_le (by rw [len_toList]; omega)
    rw [this]
    rfl
  · rw [hrr, catS_snoc, slice_eq hi0 (by omega) (Int.le_refl _)]
    simp only [Option.map_some, List.append_nil, Option.some.injEq, List.append_cancel_left_eq]
    rw [List.take_of_length_le]
    rw [List.length_drop, len_toList]
    omega
theorem end_open {T : PySem.Str} {i : Int} {n : Nat} {ys : List PySem.Str} {r r' : Option (List Nat)} (hi0 : 0 ≤ i) (hlt : i < T.length) (hu : unescF n (T.cps.toList.drop i.toNat) = some r') (hf : ¬ Txt.find3 T (PySem.Str.ofString "&") i < 0)
    (hg : Txt.find3 T (PySem.Str.ofString ";") (Txt.find3 T (PySem.Str.ofString "&") i) < 0) (hrr : r = r'.map fun m => catS ys ++ m) : r = none := by
  rw [amp_mk] at hf hg
  rw [semi_mk] at hg
  have h := (unesc_amp hi0 hlt hu rfl (by omega)).2.2.1 hg
  rw [hrr, h]
  rfl
theorem end_word {T : PySem.Str} {i : Int} {n : Nat} {ys : List PySem.Str} {r r' : Option (List Nat)} (hi0 : 0 ≤ i) (hlt : i < T.length) (hu : unescF n (T.cps.toList.drop i.toNat) = some r') (hf : ¬ Txt.find3 T (PySem.Str.ofString "&") i < 0)
    (hg : ¬ Txt.find3 T (PySem.Str.ofString ";") (Txt.find3 T (PySem.Str.ofString "&") i) < 0) (hrr : r = r'.map fun m => catS ys ++ m) :
    i ≤ Txt.find3 T (PySem.Str.ofString "&") i ∧ Txt.find3 T (PySem.Str.ofString "&") i + 1 ≤ Txt.find3 T (PySem.Str.ofString ";") (Txt.find3 T (PySem.Str.ofString "&") i) ∧ Txt.find3 T (PySem.Str.ofString ";") (Txt.find3 T (PySem.Str.ofString "&") i) < T.length ∧
    ∃ w sg, Txt.slice T (some (Txt.find3 T (PySem.Str.ofString "&") i + 1)) (some (Txt.find3 T (PySem.Str.ofString ";") (Txt.find3 T (PySem.Str.ofString "&") i))) = ⟨w.toArray⟩ ∧ signWord w = some sg ∧ (sg = none → r = none) ∧
      ∀ c, sg = some c → ∃ n' r'', unescF n' (T.cps.toList.drop (Txt.find3 T (PySem.Str.ofString ";") (Txt.find3 T (PySem.Str.ofString "&") i) + 1).toNat) = some r'' ∧
        r = r''.map fun m => catS (ys ++ [Txt.slice T (some i) (some (Txt.find3 T (PySem.Str.ofString "&") i))] ++ [⟨#[c]⟩]) ++ m := by
  rw [amp_mk] at hf hg ⊢
  rw [semi_mk] at hg ⊢
  obtain ⟨h1, h2, -, h3⟩ := unesc_amp hi0 hlt hu rfl (by omega)
  obtain ⟨h4, h5, sg, h6, h7, h8⟩ := h3 (by omega)
  refine ⟨h1, h4, h5, _, sg, slice_eq (by omega) h4 (by omega), h6, fun z => ?_, fun c z => ?_⟩
  · rw [hrr, h7 z]
    rfl
  · obtain ⟨n', r'', h9, h10⟩ := h8 c z
    refine ⟨n', r'', h9, ?_⟩
    rw [hrr, h10, catS_snoc, catS_snoc, slice_eq hi0 h1 (by omega)]
    cases r'' with
    | none => rfl
    | some m => simp
end Xm
namespace Xm
theorem find_lt {T : PySem.Str} {i : Int} {y : PySem.Str} {c : Nat} (hy : y = ⟨#[c]⟩) (h0 : 0 ≤ i) (h : ¬ Txt.find3 T y i < 0) : i ≤ Txt.find3 T y i ∧ Txt.find3 T y i < T.length := by
  subst hy
  rcases find_cases (T := T) c h0 with ⟨z, _, _⟩ | ⟨j, hj, hl, _, _⟩ <;> omega
theorem starts_le {T W : PySem.Str} {i : Int} (h0 : 0 ≤ i) (h : Txt.startswith3 T W i = true) : i + W.length ≤ T.length := by
  unfold Txt.startswith3 at h
  rw [fromIndex_nn h0, Bool.and_eq_true, decide_eq_true_eq] at h
  omega
end Xm
end

section
open PySem PySem.W PySem.Calls PyProof.Rows PySem.Spec
set_option maxRecDepth 100000
set_option maxHeartbeats 4000000
namespace Xm
section
variable {prog : Program} {w : World} {A : Around} {E : Value → Shared → Prop} {s : Shared} {h₀ : Heap} {L : Addr} {m : Str → Option Value} {env : Env}

/-- the source of a comprehension is a text -/
def SrcStr (prog : Program) (w : World) (A : Around) (h₀ : Heap) (L : Addr) (m : Str → Option Value) (env : Env) (ct elt : PySem.Expr) (x : Str) (scope : Scope) (cl : List (Str × Addr)) (Fin : Shared → List Value → List (Addr × Obj) → Prop) (xv : Value) (s₁ : Shared) : Prop :=
  ∃ y t news, xv = .str y t ∧ A.handled = none ∧ Fr h₀ L s₁.heap m ∧ News h₀ L s₁.heap news ∧ y.cps.all (· < 128) = true ∧ y.cps.size ≤ sizeLine ∧
    ∀ g : Heap, LCt.CompRestT prog w A h₀ L m env ct elt x scope cl { s₁ with heap := g } (fun _ => True) (SignAt y) (Fin { s₁ with heap := g }) y.cps.size 0 [] news

theorem ListComp_str {ct elt iter : PySem.Expr} {x : Str} {px : Pos} {scope : Scope} {cl : List (Str × Addr)} {pos : Pos} {Q : Value → Shared → Prop} (_F₀ : Fr h₀ L s.heap m)
    (hclos : closureFor scope env = pure cl) (hcell : ∀ y ∈ scope.names, y.2 ≠ .cell) (hkind : scope.kind = .function)
    (hnames : ∀ y ∈ scope.names, y.2 = .local → scope.names.lookup y.1 = some .local) (hx : scope.names.lookup x = some .local)
    (h : wpAny (model prog w) A (PySem.eval iter env) (SrcStr prog w A h₀ L m env ct elt x scope cl (fun s₂ => LCg.FinE h₀ L m s₂ Q)) E s)
    (hs : ∀ x, foldedSetIterable iter env x = pure x) :
    wpAny (model prog w) A (PySem.eval (.ListComp elt [⟨.Name x px, iter, [ct], 0⟩] scope pos) env) Q E s := by
  rw [eval_ListComp]
  refine wpAny_comprehension_free (use := none) rfl hs hclos hkind hnames (wpAny_mono h (fun xv s₁ h₁ => ?_) fun _ _ e => e)
  obtain ⟨y, t, news, rfl, hh, F, N, ha, hsz, R⟩ := h₁
  refine wpAny_pyIter_ascii ha ?_
  have up : ∀ b o, s₁.heap.get? b = some o → (s₁.heap.push { cls := .type "str_ascii_iterator", data := .fields #[.str y t, .int 0 0] }).get? b = some o := fun b o e => Heap.get?_push_of_some _ e
  refine LCt.block_T (Walks.strAscii hh s₁.heap.objs.size y t) hsz (fun i h st => by obtain ⟨o, e, _⟩ := st; exact ⟨o, e⟩)
    (fun i h h' o nw st e e' _ _ _ => by
      obtain ⟨o₁, e₁, r⟩ := st
      rw [e] at e₁
      cases e₁
      exact ⟨o, e', r⟩) hcell hkind hx ⟨_, Heap.get?_push_size _ rfl, rfl, rfl⟩ (fun b hb => ?_)
    (F.keeps up) (N.grown up) (Nat.ne_of_lt F.ns.lt) (next_is_new F) (fun p hp => Nat.ne_of_lt (Heap.lt_size (N p hp).1)) trivial (R _) ?_
  · rw [List.mem_singleton.mp hb]
    show s₁.heap.objs.size < (s₁.heap.push _).objs.size
    rw [Heap.size_push]
    exact Nat.lt_succ_self _
  · intro D C h tk m' ys news' F' N' o1 hn hC₀ hD₀ hCL hDL hCD offC fin
    refine ⟨m', hn, fun h'' hs'' => fin D h'' tk (F'.change hs'' hCL hC₀) (fun p hp => ?_) o1⟩
    refine ⟨hs''.extBut _ _ ?_ (N' p hp).1, (N' p hp).2⟩
    rcases List.mem_cons.mp hp with rfl | hp
    · exact Ne.symm hCD
    · exact offC p hp

theorem SrcStr.intro {ct elt : PySem.Expr} {x : Str} {scope : Scope} {cl : List (Str × Addr)} {Fin : Shared → List Value → List (Addr × Obj) → Prop} {y : PySem.Str} {t : Tok} {news : List (Addr × Obj)} {s₁ : Shared}
    (hh : A.handled = none) (F : Fr h₀ L s₁.heap m) (N : News h₀ L s₁.heap news) (ha : y.cps.all (· < 128) = true) (hsz : y.cps.size ≤ sizeLine)
    (h : ∀ g : Heap, LCt.CompRestT prog w A h₀ L m env ct elt x scope cl { s₁ with heap := g } (fun _ => True) (SignAt y) (Fin { s₁ with heap := g }) y.cps.size 0 [] news) :
    SrcStr prog w A h₀ L m env ct elt x scope cl Fin (.str y t) s₁ := ⟨y, t, news, rfl, hh, F, N, ha, hsz, h⟩
end
end Xm
end

section
open PySem PySem.W PySem.Calls PyProof.Rows PySem.Spec
set_option maxRecDepth 100000
set_option maxHeartbeats 4000000
namespace Xm
theorem typeCall_int_2 (a b : Value) : checkTypeCall "int" ⟨[a, b], []⟩ = pure () := by kernel_rfl
theorem newCall_int_2 (a b : Value) : checkBuiltinCall "int.__new__" ⟨[.type "int", a, b], []⟩ = pure () := by kernel_rfl
theorem init_int_2 (o a b : Value) : argsOk "object.__init__" ⟨[o, a, b], []⟩ := by unfold argsOk; kernel_rfl
theorem gives_65 (t u : Tok) : Gives (Builtin.«int.__new__» ⟨[.type "int", .str (PySem.Str.ofString "65") t, .int 10 u], []⟩) (.int 65) := .of_eq (by kernel_rfl)
theorem gives_3E (t u : Tok) : Gives (Builtin.«int.__new__» ⟨[.type "int", .str (PySem.Str.ofString "3E") t, .int 16 u], []⟩) (.int 62) := .of_eq (by kernel_rfl)
theorem gives_0 (t u : Tok) : Gives (Builtin.«int.__new__» ⟨[.type "int", .str (PySem.Str.ofString "0") t, .int 10 u], []⟩) (.int 0) := .of_eq (by kernel_rfl)
section
variable {prog : Program} {w : World} {A : Around} {E : Value → Shared → Prop} {s : Shared}
theorem call_int_2 {a b : Value} {n : Int} {Q : Value → Shared → Prop} (g : Gives (Builtin.«int.__new__» ⟨[.type "int", a, b], []⟩) (.int n)) (h : Q (.int n s.toks) { s with toks := s.toks + 1 }) :
    wpAny (model prog w) A (call (.type "int") [a, b]) Q E s :=
  callType_new F.called_int F.newNe_int (typeCall_int_2 a b) (newCall_int_2 a b) (fun obj => init_int_2 obj a b) F.entry_int_new g.meets (show (Made.int n).post _ s from ⟨rfl, h⟩)
end
end Xm
end

section
open PySem PySem.W PySem.Calls PyProof.Rows PySem.Spec
set_option maxRecDepth 100000
namespace Xm
open Builtin.Str (occurrences subAt strSub)
/-- what stands behind an opening quote q at p -/
def readQ (n : Nat) (T nm q : PySem.Str) (p : Int) : Option (Option (PySem.Str × List Nat × Int)) :=
  if Txt.find3 T q p < 0 then some none
  else if (occurrences (Txt.slice T (some p) (some (Txt.find3 T q p))) (PySem.Str.ofString "<") 0 (Txt.slice T (some p) (some (Txt.find3 T q p))).length 1).isEmpty = false then some none
  else (unescF n (Txt.slice T (some p) (some (Txt.find3 T q p))).cps.toList).map fun r => r.map fun m => (nm, m, Txt.find3 T q p + 1)
/-- what read_attribute reads of the text T from its first sign on, where the names keys are known: none, nothing is said; some none, a SheetFault; else the name, the value, the place behind -/
def readF (n : Nat) (T : PySem.Str) (keys : List PySem.Str) : Option (Option (PySem.Str × List Nat × Int)) :=
  if nameOk T 0 = false then some none
  else if Txt.startswith3 T (PySem.Str.ofString "=") (runEnd isBlank T (runEnd notEnd T 0)) = false then some none
  else if Txt.slice T (some 0) (some (runEnd notEnd T 0)) ∈ keys then some none
  else if Txt.startswith3 T (PySem.Str.ofString "\"") (runEnd isBlank T (runEnd isBlank T (runEnd notEnd T 0) + 1)) = true then
    readQ n T (Txt.slice T (some 0) (some (runEnd notEnd T 0))) (PySem.Str.ofString "\"") (runEnd isBlank T (runEnd isBlank T (runEnd notEnd T 0) + 1) + 1)
  else if Txt.startswith3 T (PySem.Str.ofString "'") (runEnd isBlank T (runEnd isBlank T (runEnd notEnd T 0) + 1)) = true then
    readQ n T (Txt.slice T (some 0) (some (runEnd notEnd T 0))) (PySem.Str.ofString "'") (runEnd isBlank T (runEnd isBlank T (runEnd notEnd T 0) + 1) + 1)
  else some none
theorem len_eq : ((PySem.Str.ofString "=").length : Int) = 1 := by decide +kernel
theorem len_dq : ((PySem.Str.ofString "\"").length : Int) = 1 := by decide +kernel
theorem len_sq : ((PySem.Str.ofString "'").length : Int) = 1 := by decide +kernel
theorem dq_mk : PySem.Str.ofString "\"" = ⟨#[34]⟩ := by decide +kernel
theorem sq_mk : PySem.Str.ofString "'" = ⟨#[39]⟩ := by decide +kernel
theorem lt_mk : PySem.Str.ofString "<" = ⟨#[60]⟩ := by decide +kernel
section
variable {n : Nat} {T nm q : PySem.Str} {p : Int} {keys : List PySem.Str} {res : Option (PySem.Str × List Nat × Int)}
theorem readQ_at (h : readQ n T nm q p = some res) (h1 : 0 ≤ Txt.find3 T q p) (h2 : (occurrences (Txt.slice T (some p) (some (Txt.find3 T q p))) (PySem.Str.ofString "<") 0 (Txt.slice T (some p) (some (Txt.find3 T q p))).length 1).isEmpty = true) :
    ∃ r, unescF n (Txt.slice T (some p) (some (Txt.find3 T q p))).cps.toList = some r ∧ res = r.map fun m => (nm, m, Txt.find3 T q p + 1) := by
  unfold readQ at h
  rw [if_neg (by omega), if_neg (by rw [h2]; decide)] at h
  obtain ⟨r, hr, e⟩ := Option.map_eq_some_iff.mp h
  exact ⟨r, hr, e.symm⟩
theorem readQ_e1 (h : readQ n T nm q p = some res) (h1 : Txt.find3 T q p < 0) : res = none := by
  unfold readQ at h
  rw [if_pos h1] at h
  exact (Option.some.inj h).symm
theorem readQ_e2 (h : readQ n T nm q p = some res) (h1 : 0 ≤ Txt.find3 T q p) (h2 : (occurrences (Txt.slice T (some p) (some (Txt.find3 T q p))) (PySem.Str.ofString "<") 0 (Txt.slice T (some p) (some (Txt.find3 T q p))).length 1).isEmpty = false) : res = none := by
  unfold readQ at h
  rw [if_neg (by omega), if_pos h2] at h
  exact (Option.some.inj h).symm
variable (h : readF n T keys = some res)
include h
theorem readF_e1 (h1 : nameOk T 0 = false) : res = none := by
  unfold readF at h
  rw [if_pos h1] at h
  exact (Option.some.inj h).symm
theorem readF_e2 (h1 : nameOk T 0 = true) (h2 : Txt.startswith3 T (PySem.Str.ofString "=") (runEnd isBlank T (runEnd notEnd T 0)) = false) : res = none := by
  unfold readF at h
  rw [if_neg (by rw [h1]; decide), if_pos h2] at h
  exact (Option.some.inj h).symm
theorem readF_e3 (h1 : nameOk T 0 = true) (h2 : Txt.startswith3 T (PySem.Str.ofString "=") (runEnd isBlank T (runEnd notEnd T 0)) = true) (h3 : Txt.slice T (some 0) (some (runEnd notEnd T 0)) ∈ keys) : res = none := by
  unfold readF at h
  rw [if_neg (by rw [h1]; decide), if_neg (by rw [h2]; decide), if_pos h3] at h
  exact (Option.some.inj h).symm
theorem readF_e4 (h1 : nameOk T 0 = true) (h2 : Txt.startswith3 T (PySem.Str.ofString "=") (runEnd isBlank T (runEnd notEnd T 0)) = true) (h3 : ¬ Txt.slice T (some 0) (some (runEnd notEnd T 0)) ∈ keys)
    (h4 : Txt.startswith3 T (PySem.Str.ofString "\"") (runEnd isBlank T (runEnd isBlank T (runEnd notEnd T 0) + 1)) = false) (h5 : Txt.startswith3 T (PySem.Str.ofString "'") (runEnd isBlank T (runEnd isBlank T (runEnd notEnd T 0) + 1)) = false) : res = none := by
  unfold readF at h
  rw [if_neg (by rw [h1]; decide), if_neg (by rw [h2]; decide), if_neg h3, if_neg (by rw [h4]; decide), if_neg (by rw [h5]; decide)] at h
  exact (Option.some.inj h).symm
theorem readF_dq (h1 : nameOk T 0 = true) (h2 : Txt.startswith3 T (PySem.Str.ofString "=") (runEnd isBlank T (runEnd notEnd T 0)) = true) (h3 : ¬ Txt.slice T (some 0) (some (runEnd notEnd T 0)) ∈ keys)
    (h4 : Txt.startswith3 T (PySem.Str.ofString "\"") (runEnd isBlank T (runEnd isBlank T (runEnd notEnd T 0) + 1)) = true) :
    readQ n T (Txt.slice T (some 0) (some (runEnd notEnd T 0))) (PySem.Str.ofString "\"") (runEnd isBlank T (runEnd isBlank T (runEnd notEnd T 0) + 1) + 1) = some res := by
  unfold readF at h
  rw [if_neg (by rw [h1]; decide), if_neg (by rw [h2]; decide), if_neg h3, if_pos h4] at h
  exact h
theorem readF_sq (h1 : nameOk T 0 = true) (h2 : Txt.startswith3 T (PySem.Str.ofString "=") (runEnd isBlank T (runEnd notEnd T 0)) = true) (h3 : ¬ Txt.slice T (some 0) (some (runEnd notEnd T 0)) ∈ keys)
    (h4 : Txt.startswith3 T (PySem.Str.ofString "\"") (runEnd isBlank T (runEnd isBlank T (runEnd notEnd T 0) + 1)) = false) (h5 : Txt.startswith3 T (PySem.Str.ofString "'") (runEnd isBlank T (runEnd isBlank T (runEnd notEnd T 0) + 1)) = true) :
    readQ n T (Txt.slice T (some 0) (some (runEnd notEnd T 0))) (PySem.Str.ofString "'") (runEnd isBlank T (runEnd isBlank T (runEnd notEnd T 0) + 1) + 1) = some res := by
  unfold readF at h
  rw [if_neg (by rw [h1]; decide), if_neg (by rw [h2]; decide), if_neg h3, if_neg (by rw [h4]; decide), if_pos h5] at h
  exact h
end
theorem valueAt_some (k : PySem.Str) (kvs : List (PySem.Str × Value)) : (valueAt kvs k).isSome = decide (k ∈ kvs.map (·.1)) := by
  unfold valueAt
  rw [Option.isSome_map, Bool.eq_iff_iff, List.find?_isSome, decide_eq_true_iff, List.mem_map]
  exact ⟨fun ⟨x, a, b⟩ => ⟨x, a, of_decide_eq_true b⟩, fun ⟨x, a, b⟩ => ⟨x, a, decide_eq_true b⟩⟩
end Xm
end

section
open PySem PySem.W PySem.Calls PyProof.Rows PySem.Spec
set_option maxRecDepth 100000
set_option maxHeartbeats 4000000
namespace Xm
theorem keys_miss : typeLookup (.type "list") (PySem.Str.ofString "keys") = pure none := by rw [typeLookup_type, builtinLookup_eq_fast]; kernel_rfl

theorem getKeys_miss_list {prog : Program} {w : World} {A : Around} {E : Value → Shared → Prop} {s : Shared} {a : Addr} {xs : Array Value} {k : Nat} {sl : Array (Option Value)} {name : PySem.Str} {Q : Option Value → Shared → Prop}
    (hx : s.heap.get? a = some { cls := .type "list", dict := none, data := .seq xs k, slots := sl }) (hmiss : typeLookup (.type "list") name = pure none) (hname : (["__module__", "__name__", "__qualname__", "__doc__", "__annotations__"] : List PySem.Str).contains name = false) (hA : A.handled = none)
    (hsz : name.length + 100 ≤ sizeLine)
    (h : ∀ h' tk, (∀ b ob, s.heap.get? b = some ob → h'.get? b = some ob) → Q none { s with heap := h', toks := tk }) :
    wpAny (model prog w) A (getAttr? (.ref a) name) Q E s := by
  obtain ⟨hp, g, d, tk, os⟩ := s
  have hT : ∀ tk', (⟨hp, g, d, tk', os⟩ : Shared).TypeIs (.ref a) "list" := fun _ => ⟨_, hx, rfl⟩
  have f1 := sub_AttributeError
  have f3 := F.slot_list_getattribute.lookup
  have f4 := F.slot_list_getattribute.bind (.ref a)
  have f5 := am_list_getattr_none
  unfold getAttr? getAttrBy? getAttrBy
  repeat (any_goals (first | assumption | exact hT _ | ((with_reducible show wpAny _ _ (call (Value.builtin "list.__getattribute__") _ _) _ _ _); refine call_meets F.slot_list_getattribute (hT _) am_entry_list_getattribute (F.args_list_getattribute_2 _ _) (meets_getattribute_miss_list a xs k sl name _ hmiss hname hsz) ⟨hx, hA, fun h' tk' e hx' => ?_⟩) | wp_step))
  obtain ⟨t', u', he⟩ := hx'.there
  show wpAny _ _ (getattributeRaised _ _ _ _ _ _ _) _ _ _
  unfold getattributeRaised
  repeat (any_goals (first | assumption | wp_step))
  exact h _ _ hx'.keeps

theorem entry_dict_loop : entryFor table "dict.update.loop" = some Builtin.«dict.update.loop» := entryFor_of_tree (by kernel_rfl)
theorem plain_dict_loop : plainId "dict.update.loop" = true := by decide +kernel

/-- the value v is a pair of a text and a value, in the heap h -/
def PairAt (h : Heap) (v : Value) (p : PySem.Str × Value) : Prop := ∃ a o n tk, v = .ref a ∧ h.get? a = some o ∧ o.cls = .type "tuple" ∧ o.data = .seq #[.str p.1 tk, p.2] n
inductive PairsAt (h : Heap) : List Value → List (PySem.Str × Value) → Prop
  | nil : PairsAt h [] []
  | cons {v p vs ps} : PairAt h v p → PairsAt h vs ps → PairsAt h (v :: vs) (p :: ps)

section
variable {prog : Program} {w : World} {A : Around}
theorem dict_loop {hb : Heap} {l it d : Addr} {items : List Value} {R : Result → Shared → Prop} (hh : A.handled = none) (hd0 : hb.get? d = none) (hi0 : hb.get? it = none) (hdi : d ≠ it) (hl : hb.IsList l items.toArray) :
    ∀ (todo : List Value) (i : Nat) (iv : Int) (tv : Tok) (kvs rows : List (PySem.Str × Value)) (s : Shared), items.drop i = todo → (∀ b o, hb.get? b = some o → s.heap.get? b = some o) → s.heap.IsListIter it l i →
      s.heap.DictOf (PySem.strKind prog w) d kvs → PairsAt hb todo rows → kvs.length + rows.length ≤ sizeLine →
      (∀ h' tk, h'.DictOf (PySem.strKind prog w) d (rows.foldl (fun kvs r => stored kvs r.1 r.2) kvs) → (∀ b o, hb.get? b = some o → h'.get? b = some o) → R (.ok (.ret .none)) { s with heap := h', toks := tk }) →
      codeAny (model prog w) A (.builtin "dict.update.loop" ⟨[.ref d, .ref it, .int iv tv, .none], []⟩) R s := by
  intro todo
  induction todo with
  | nil =>
    intro i iv tv kvs rows s htodo hk hit hd hp hsz hR
    cases hp
    obtain ⟨ol, hol, hlc, hld⟩ := hl
    refine codeAny_builtin entry_dict_loop ?_
    rw [Around.under_plainId plain_dict_loop _]
    show wpAny _ A.in1 (pyNext (.ref it) >>= _) _ _ s
    refine wpAny_bind (wpAny_pyNext_list_end (by simpa using hh) hit ⟨ol, hk _ _ hol, hlc, hld⟩ (by rw [List.getElem?_toArray]; have := List.drop_eq_nil_iff.mp htodo; exact List.getElem?_eq_none this) fun h' hx => ?_)
    show wpAny _ A.in1 (Builtin.Dict.addKeywords d [] >>= _) _ _ _
    refine wpAny_bind (wpAny_pure (wpAny_pure ?_))
    obtain ⟨o, ho, hdo⟩ := Heap.dictOf_iff.mp hd
    exact hR h' s.toks (Heap.dictOf_iff.mpr ⟨o, hx _ _ hdi ho, hdo⟩) fun b o e => hx b o (fun z => by rw [z, hi0] at e; cases e) (hk b o e)
  | cons v todo ih =>
    intro i iv tv kvs rows s htodo hk hit hd hp hsz hR
    cases hp with
    | cons hp hps =>
    rename_i p ps
    obtain ⟨a, o, n, tk, rfl, hao, hac, had⟩ := hp
    have hl' := hl
    obtain ⟨ol, hol, hlc, hld⟩ := hl'
    have hv : items[i]? = some (.ref a) := by
      have := congrArg (fun z => z[0]?) htodo
      simpa [List.getElem?_drop] using this
    have hrest : items.drop (i + 1) = todo := by
      have := congrArg List.tail htodo
      simpa [List.tail_drop] using this
    refine codeAny_builtin entry_dict_loop ?_
    rw [Around.under_plainId plain_dict_loop _]
    show wpAny _ A.in1 (pyNext (.ref it) >>= _) _ _ s
    refine wpAny_bind (wpAny_pyNext_list_item hit ⟨ol, hk _ _ hol, hlc, hld⟩ (by rw [List.getElem?_toArray]; exact hv) fun h₁ hit₁ hs₁ => ?_)
    have hk₁ : ∀ b o, hb.get? b = some o → h₁.get? b = some o := fun b o e => (hs₁.2 b (fun z => by rw [z, hi0] at e; cases e)).trans (hk b o e)
    have hd₁ := hd.sameBut hs₁ hdi
    show wpAny _ A.in1 (holding [Value.ref a] (_ >>= _) >>= _) _ _ _
    refine wpAny_bind (wpAny_holding (wpAny_bind (wpAny_tryCatch ?_)))
    unfold Builtin.Dict.pairItems
    refine wpAny_bind (wpAny_typeOf (T := "tuple") ⟨o, hk₁ _ _ hao, hac⟩ ?_)
    rw [if_pos (by decide)]
    refine wpAny_bind (wpAny_seqItems (hk₁ _ _ hao) had (wpAny_pure ?_))
    show wpAny _ A.in1 (holding [Value.str p.1 tk, p.2] (dictSet d (.str p.1 tk) p.2)) _ _ _
    have hlen : kvs.length ≤ sizeLine := by omega
    refine wpAny_holding (wpAny_dictSet_pairs (knd := PySem.strKind prog w) (strKind_is _ _ _ _) hd₁ (fun h₂ hd₂ hs₂ => ?_) hlen)
    have hk₂ : ∀ b o, hb.get? b = some o → h₂.get? b = some o := fun b o e => (hs₂.2 b (fun z => by rw [z, hd0] at e; cases e)).trans (hk₁ b o e)
    have hlen2 : (stored kvs p.1 p.2).length ≤ kvs.length + 1 := by
      unfold stored
      split <;> simp
    refine wpAny_pure ⟨plainId_quiet plain_dict_loop _, ih (i + 1) _ _ (stored kvs p.1 p.2) ps { s with heap := h₂, toks := s.toks + 1 } hrest hk₂ ?_ hd₂ hps (by simp only [List.length_cons] at hsz; omega) fun h' tk' hd' hk' => hR h' tk' hd' hk'⟩
    obtain ⟨oi, hoi, r⟩ := hit₁
    exact ⟨oi, (hs₂.2 it (fun z => hdi z.symm)).trans hoi, r⟩

theorem PairsAt.mono {h h' : Heap} (k : ∀ b o, h.get? b = some o → h'.get? b = some o) {vs : List Value} {ps : List (PySem.Str × Value)} (x : PairsAt h vs ps) : PairsAt h' vs ps := by
  induction x with
  | nil => exact .nil
  | cons p _ ih =>
    obtain ⟨a, o, n, tk, e, ho, r⟩ := p
    exact .cons ⟨a, o, n, tk, e, k _ _ ho, r⟩ ih

theorem call_dict_pairs {E : Value → Shared → Prop} {s : Shared} {Q : Value → Shared → Prop} {l : Addr} {items : List Value} {kl : Nat} {rows : List (PySem.Str × Value)} (hh : A.handled = none)
    (hl : s.heap.get? l = some { cls := .type "list", data := .seq items.toArray kl }) (hrows : PairsAt s.heap items rows) (hsz : rows.length ≤ 1000)
    (h : ∀ h' tk, h'.DictOf (PySem.strKind prog w) s.heap.objs.size (rows.foldl (fun kvs r => stored kvs r.1 r.2) []) → (∀ b o, s.heap.get? b = some o → h'.get? b = some o) → Q (.ref s.heap.objs.size) { s with heap := h', toks := tk }) :
    wpAny (model prog w) A (call (.type "dict") [.ref l]) Q E s := by
  refine callType_codes (Q₁ := fun obj s₁ => obj = .ref s.heap.objs.size ∧ s₁ = { s with heap := s.heap.push { cls := .type "dict", data := .dict #[] } }) F.kt_called_dict (F.kt_typeCall_dict_1 _) F.entry_dict_init (kt_code_dict_new _ ⟨rfl, rfl⟩) ?_
  rintro obj s₁ ⟨rfl, rfl⟩
  have hnew : (s.heap.push { cls := .type "dict", data := .dict #[] }).DictOf (PySem.strKind prog w) s.heap.objs.size [] := Heap.DictOf.new s.heap
  refine ⟨hnew.typeIs, F.args_dict_init_2 _ _, ?_⟩
  have hl1 := Heap.get?_push_of_some { cls := .type "dict", data := .dict #[] } hl
  unfold Builtin.«dict.__init__»
  refine wpAny_bind ?_
  unfold Builtin.Dict.selfAndRest
  refine wpAny_bind (wpAny_notOrdered_dict hnew.typeIs ?_)
  show wpAny _ _ (pure (s.heap.objs.size, [Value.ref l])) _ _ _
  refine wpAny_pure ?_
  show wpAny _ _ (Builtin.Dict.updateFrom "dict.__init__" s.heap.objs.size (.ref l) [] .none) _ _ _
  unfold Builtin.Dict.updateFrom
  refine wpAny_bind (wpAny_typeOf (T := "list") ⟨_, hl1, rfl⟩ ?_)
  rw [if_pos (by decide)]
  refine wpAny_bind (getKeys_miss_list hl1 keys_miss (by decide +kernel) (by simpa using hh) (by size_fits) fun h₂ tk₂ hk₂ => ?_)
  rw [if_pos (by rfl)]
  refine wpAny_bind (wpAny_rule ?_)
  have hl2 := hk₂ _ _ hl1
  refine wpAny_bind (wpAny_pyIter_list (items := items.toArray) ⟨_, hl2, rfl, kl, rfl⟩ ?_)
  have hd2 : h₂.DictOf (PySem.strKind prog w) s.heap.objs.size [] := by
    obtain ⟨o, ho, r⟩ := Heap.dictOf_iff.mp hnew
    exact Heap.dictOf_iff.mpr ⟨o, hk₂ _ _ ho, r⟩
  have hlt : s.heap.objs.size < h₂.objs.size := by
    obtain ⟨o, ho, r⟩ := Heap.dictOf_iff.mp hd2
    exact Heap.lt_size ho
  have hk3 : ∀ b o, s.heap.get? b = some o → (h₂.push { cls := .type "list_iterator", data := .fields #[.ref l, .int 0 0] }).get? b = some o := fun b o e => Heap.get?_push_of_some _ (hk₂ _ _ (Heap.get?_push_of_some _ e))
  refine wpAny_pure ?_
  have hh' : A.in1.handled = none := by simpa using hh
  refine ⟨plainId_quiet plain_dict_loop _, dict_loop (hb := s.heap) hh' (Heap.get?_none_of_le (Nat.le_refl _)) (Heap.get?_none_of_le (Nat.le_of_lt hlt)) (Nat.ne_of_lt hlt) ⟨_, hl, rfl, kl, rfl⟩ items 0 0 0 [] rows
    { s with heap := h₂.push { cls := .type "list_iterator", data := .fields #[.ref l, .int 0 0] }, toks := tk₂ } rfl hk3 ⟨_, Heap.get?_push_size _ rfl, rfl, rfl⟩ ?_ hrows (by rw [sizeLine_eq]; simp only [List.length_nil]; omega) fun h' tk' hd' hk' => ⟨rfl, h h' tk' hd' hk'⟩⟩
  obtain ⟨o, ho, r⟩ := Heap.dictOf_iff.mp hd2
  exact Heap.dictOf_iff.mpr ⟨o, Heap.get?_push_of_some _ ho, r⟩

/-- dict(rows), with the ledger -/
theorem dict_new {pp : Program} {loose : List PySem.Str} {mean : ExcName → Option Value} {mg mb : PySem.Str → Option Value} {E : Value → Shared → Prop} {s : Shared} {h₀ : Heap} {L : Addr} {m : PySem.Str → Option Value} {news : List (Addr × Obj)} {Q : Value → Shared → Prop} {l : Addr} {items : List Value} {kl : Nat} {rows : List (PySem.Str × Value)} (hh : A.handled = none)
    (F : Fr h₀ L s.heap m) (N : News h₀ L s.heap news) (T : Top pp loose mean mg mb h₀) (hl : s.heap.get? l = some { cls := .type "list", data := .seq items.toArray kl }) (hrows : PairsAt s.heap items rows) (hsz : rows.length ≤ 1000)
    (h : ∀ (D : Addr) h' tk o, Fr h₀ L h' m → News h₀ L h' ((D, o) :: news) → (∀ p ∈ news, @LT.lt Nat _ p.1 D) → (D == sysModules) = false → o.IsDictOf (PySem.strKind prog w) (rows.foldl (fun kvs r => stored kvs r.1 r.2) []) → Q (.ref D) { s with heap := h', toks := tk }) :
    wpAny (model prog w) A (call (.type "dict") [.ref l]) Q E s := by
  refine call_dict_pairs hh hl hrows hsz fun h' tk hd hk => ?_
  obtain ⟨o, ho, hdo⟩ := Heap.dictOf_iff.mp hd
  obtain ⟨oL, _, _, hL, _⟩ := F.ns
  refine h _ h' tk o ⟨F.ns.at' fun o' e => hk L o' e, fun b o' e => hk b o' (F.keep b o' e), F.above⟩ (fun p hp => ?_) (fun p hp => Heap.lt_size (N p hp).1) (F.notModules (modules_low T.nolimit)) hdo
  rcases List.mem_cons.mp hp with rfl | hp
  · refine ⟨ho, Nat.ne_of_gt (Heap.lt_size hL), ?_⟩
    cases hq : h₀.get? s.heap.objs.size with
    | none => rfl
    | some o' => exact absurd (Heap.lt_size (F.keep _ _ hq)) (Nat.lt_irrefl _)
  · exact ⟨hk _ _ (N p hp).1, (N p hp).2.1, (N p hp).2.2⟩
end
end Xm
end

section
open PySem PySem.W PySem.Calls PyProof.Rows PySem.Spec
set_option maxRecDepth 100000
namespace Xm
open Builtin.Str (occurrences subAt strSub)
section
variable {T : PySem.Str} {i : Int} {n : Nat}
theorem drop_at {pre l : List Nat} (hT : T.cps.toList = pre ++ l) (hi : i = pre.length) : T.cps.toList.drop i.toNat = l := by
  rw [hT, hi, Int.toNat_natCast, List.drop_left]
theorem runEnd_at {p : Nat → Bool} {pre a r : List Nat} (hT : T.cps.toList = pre ++ (a ++ r)) (hi : i = pre.length) (ha : ∀ c ∈ a, p c = true) (hr : ∀ c ∈ r.head?, p c = false) : runEnd p T i = i + a.length := by
  unfold runEnd
  have : r.takeWhile p = [] := by
    cases r with
    | nil => rfl
    | cons c r => rw [List.takeWhile_cons, hr c rfl]; rfl
  rw [drop_at hT hi, List.takeWhile_append_of_pos ha, this, List.append_nil]
theorem starts_get {c : Nat} (h0 : 0 ≤ i) : Txt.startswith3 T ⟨#[c]⟩ i = decide (T.cps.toList[i.toNat]? = some c) := by
  unfold Txt.startswith3
  rw [fromIndex_nn h0, Bool.eq_iff_iff, Bool.and_eq_true, decide_eq_true_eq, decide_eq_true_eq]
  exact StrLaws.subAt_one T c i.toNat
theorem starts_at {pre r : List Nat} {c : Nat} (hT : T.cps.toList = pre ++ r) (hi : i = pre.length) : Txt.startswith3 T ⟨#[c]⟩ i = decide (r.head? = some c) := by
  rw [starts_get (by omega), hT, hi, Int.toNat_natCast, List.getElem?_append_right (Nat.le_refl _), Nat.sub_self, List.head?_eq_getElem?]
theorem ahead_app {c : Nat} : ∀ {a : List Nat} (r : List Nat), c ∉ a → ahead c (a ++ r) = a ++ ahead c r ∧ from_ c (a ++ r) = from_ c r
  | [], _, _ => ⟨rfl, rfl⟩
  | x :: a, r, h => by
    have hx : (x != c) = true := by simpa using fun e => h (by rw [e]; exact .head _)
    have ih := ahead_app (a := a) r fun z => h (.tail _ z)
    unfold ahead from_ at *
    rw [List.cons_append, List.takeWhile_cons, List.dropWhile_cons, hx]
    simp only [if_true]
    exact ⟨by rw [ih.1]; rfl, ih.2⟩
theorem ahead_self (c : Nat) (r : List Nat) : ahead c (c :: r) = [] ∧ from_ c (c :: r) = c :: r := by
  unfold ahead from_
  simp
theorem find_none {pre raw : List Nat} {c : Nat} (hT : T.cps.toList = pre ++ raw) (hi : i = pre.length) (h : c ∉ raw) : Txt.find3 T ⟨#[c]⟩ i < 0 := by
  rcases find_cases (T := T) c (i := i) (by omega) with ⟨z, _, _⟩ | ⟨k, _, _, _, e⟩
  · omega
  · rw [drop_at hT hi] at e
    have := (ahead_app (c := c) [] h).2
    rw [List.append_nil] at this
    rw [this] at e
    cases e
theorem find_some {pre raw r : List Nat} {c : Nat} (hT : T.cps.toList = pre ++ (raw ++ c :: r)) (hi : i = pre.length) (h : c ∉ raw) : Txt.find3 T ⟨#[c]⟩ i = i + raw.length := by
  have A := ahead_app (c := c) (c :: r) h
  rw [(ahead_self c r).1, (ahead_self c r).2, List.append_nil] at A
  rcases find_cases (T := T) c (i := i) (by omega) with ⟨_, _, e⟩ | ⟨k, hk, hl, e, _⟩
  · rw [drop_at hT hi, A.2] at e
    cases e
  · rw [drop_at hT hi, A.1] at e
    have e' := congrArg List.length e
    rw [List.length_take] at e'
    have hlen : T.length = pre.length + (raw ++ c :: r).length := by rw [len_toList, hT, List.length_append]
    have : min k (raw ++ c :: r).length = k := by omega
    rw [this] at e'
    rw [hk, e']
theorem slice_at {pre a r : List Nat} {j : Int} (hT : T.cps.toList = pre ++ (a ++ r)) (hi : i = pre.length) (hj : j = i + a.length) : Txt.slice T (some i) (some j) = ⟨a.toArray⟩ := by
  have hlen : T.length = pre.length + (a.length + r.length) := by rw [len_toList, hT, List.length_append, List.length_append]
  rw [slice_eq (by omega) (by omega) (by omega), drop_at hT hi, hj]
  have : (i + (a.length : Int) - i).toNat = a.length := by omega
  rw [this, List.take_left]
theorem eq_mk : PySem.Str.ofString "=" = ⟨#[61]⟩ := by decide +kernel
theorem blank_end {c : Nat} (h : isBlank c = true) : notEnd c = false := by
  unfold isBlank at h
  have h := of_decide_eq_true h
  simp only [List.mem_cons, List.not_mem_nil, or_false] at h
  rcases h with rfl | rfl | rfl | rfl <;> rfl
/-- a name -/
def isName (nm : List Nat) : Bool := nm.all notEnd && match nm with
  | c :: _ => !noBegin c
  | [] => false
theorem name_at {nm r : List Nat} (hT : T.cps.toList = nm ++ r) (hn : isName nm = true) (hr : ∀ c ∈ r.head?, notEnd c = false) : runEnd notEnd T 0 = nm.length ∧ nameOk T 0 = true ∧ Txt.slice T (some 0) (some (nm.length : Int)) = ⟨nm.toArray⟩ := by
  unfold isName at hn
  rw [Bool.and_eq_true, List.all_eq_true] at hn
  have hR := runEnd_at (T := T) (i := 0) (p := notEnd) (pre := []) (a := nm) (r := r) hT rfl hn.1 hr
  rw [Int.zero_add] at hR
  refine ⟨hR, ?_, slice_at (pre := []) hT rfl (by omega)⟩
  unfold nameOk
  rw [hR, hT]
  cases nm with
  | nil => cases hn.2
  | cons c nm =>
    have h2 := hn.2
    simp only [List.length_cons, Bool.and_eq_true, decide_eq_true_eq]
    refine ⟨by omega, ?_⟩
    simpa using h2
/-- nothing but a name, and no sign behind it -/
theorem readF_nosign {nm b tl : List Nat} {keys : List PySem.Str} (hT : T.cps.toList = nm ++ (b ++ tl)) (hn : isName nm = true) (hb : ∀ c ∈ b, isBlank c = true) (h1 : ∀ c ∈ tl.head?, isBlank c = false ∧ c ≠ 61) (h2 : b = [] → ∀ c ∈ tl.head?, notEnd c = false) : readF n T keys = some none := by
  obtain ⟨e1, e2, -⟩ := name_at hT hn (by
    intro c hc
    cases b with
    | nil => exact h2 rfl c hc
    | cons x b =>
      have : x = c := by simpa using hc
      exact this ▸ blank_end (hb x (.head _)))
  have e3 := runEnd_at (T := T) (i := nm.length) (p := isBlank) (pre := nm) (a := b) (r := tl) hT rfl hb fun c hc => (h1 c hc).1
  have e4 := starts_at (T := T) (i := (nm.length : Int) + b.length) (pre := nm ++ b) (r := tl) (c := 61) (by rw [hT, List.append_assoc]) (by rw [List.length_append]; omega)
  have e5 : ¬ tl.head? = some 61 := fun z => (h1 61 z).2 rfl
  unfold readF
  rw [if_neg (by rw [e2]; decide), e1, e3, eq_mk, e4, if_pos (decide_eq_false e5)]
/-- what is read where a name, a sign stand -/
theorem readF_sign {nm b1 b2 tl : List Nat} {keys : List PySem.Str} (hT : T.cps.toList = nm ++ (b1 ++ 61 :: (b2 ++ tl))) (hn : isName nm = true) (hb1 : ∀ c ∈ b1, isBlank c = true) (hb2 : ∀ c ∈ b2, isBlank c = true) (ht : ∀ c ∈ tl.head?, isBlank c = false) :
    readF n T keys = if (⟨nm.toArray⟩ : PySem.Str) ∈ keys then some none
      else if tl.head? = some 34 then readQ n T ⟨nm.toArray⟩ ⟨#[34]⟩ ((nm ++ (b1 ++ 61 :: b2)).length + 1)
      else if tl.head? = some 39 then readQ n T ⟨nm.toArray⟩ ⟨#[39]⟩ ((nm ++ (b1 ++ 61 :: b2)).length + 1)
      else some none := by
  obtain ⟨e1, e2, e0⟩ := name_at hT hn (by
    intro c hc
    cases b1 with
    | nil =>
      have : 61 = c := by simpa using hc
      subst this
      rfl
    | cons x b =>
      have : x = c := by simpa using hc
      exact this ▸ blank_end (hb1 x (.head _)))
  have e3 := runEnd_at (T := T) (i := nm.length) (p := isBlank) (pre := nm) (a := b1) (r := 61 :: (b2 ++ tl)) hT rfl hb1 fun c hc => by
    have : 61 = c := by simpa using hc
    subst this
    rfl
  have e4 := starts_at (T := T) (i := (nm.length : Int) + b1.length) (pre := nm ++ b1) (r := 61 :: (b2 ++ tl)) (c := 61) (by rw [hT, List.append_assoc]) (by rw [List.length_append]; omega)
  have e5 := runEnd_at (T := T) (i := (nm.length : Int) + b1.length + 1) (p := isBlank) (pre := nm ++ (b1 ++ [61])) (a := b2) (r := tl) (by rw [hT]; simp) (by simp only [List.length_append, List.length_cons, List.length_nil]; omega) hb2 ht
  have e6 : (nm.length : Int) + b1.length + 1 + b2.length = ((nm ++ (b1 ++ 61 :: b2)).length : Nat) := by simp only [List.length_append, List.length_cons]; omega
  have e7 := fun c => starts_at (T := T) (i := ((nm ++ (b1 ++ 61 :: b2)).length : Nat)) (pre := nm ++ (b1 ++ 61 :: b2)) (r := tl) (c := c) (by rw [hT]; simp) rfl
  rw [e6] at e5
  unfold readF
  rw [if_neg (by rw [e2]; decide), e1, e3, eq_mk, e4, if_neg (by simp), e0, e5, dq_mk, sq_mk, e7 34, e7 39]
  simp only [decide_eq_true_eq]
theorem lt_in (x : PySem.Str) : (occurrences x (PySem.Str.ofString "<") 0 x.length 1).isEmpty = !decide (60 ∈ x.cps.toList) := by rw [lt_mk, found_mem]
theorem readQ_noend {pre raw : List Nat} {nm : PySem.Str} {q : Nat} {p : Int} (hT : T.cps.toList = pre ++ raw) (hp : p = pre.length) (h : q ∉ raw) : readQ n T nm ⟨#[q]⟩ p = some none := by
  unfold readQ
  rw [if_pos (find_none hT hp h)]
theorem readQ_at' {pre raw r : List Nat} {nm : PySem.Str} {q : Nat} {p : Int} (hT : T.cps.toList = pre ++ (raw ++ q :: r)) (hp : p = pre.length) (h : q ∉ raw) :
    readQ n T nm ⟨#[q]⟩ p = if 60 ∈ raw then some none else (unescF n raw).map fun r => r.map fun m => (nm, m, p + raw.length + 1) := by
  have e1 := find_some hT hp h
  have e2 := slice_at (i := p) (j := p + raw.length) hT hp rfl
  unfold readQ
  rw [if_neg (by omega), e1, e2, lt_in]
  by_cases z : 60 ∈ raw
  · simp [z]
  · simp [z]
end
end Xm
end

section
open PySem PySem.W PySem.Calls PyProof.Rows PySem.Spec
set_option maxRecDepth 100000
namespace Xm
open Builtin.Str (occurrences subAt strSub)
/-- the signs of a text -/
abbrev cs (x : PySem.Str) : List Nat := x.cps.toList
theorem cs_app (x y : PySem.Str) : cs (x ++ y) = cs x ++ cs y := by simp [cs, PySem.Str.cps_append]
theorem cs_len (x : PySem.Str) : (cs x).length = x.length := (len_toList x).symm
theorem cs_mk (x : PySem.Str) : (⟨(cs x).toArray⟩ : PySem.Str) = x := rfl
theorem cs_inj {x y : PySem.Str} (h : cs x = cs y) : x = y := by
  rw [← cs_mk x, ← cs_mk y, h]
theorem slice_rest {x y : PySem.Str} {i : Int} (hi : i = x.length) : Txt.slice (x ++ y) (some i) none = y := by
  have hl : (x ++ y).length = x.length + y.length := PySem.Str.length_append x y
  have e := eq_of_beq (slice_closes_fromL (x := x ++ y) (i := i) (b := (x ++ y).length) (by omega) (by omega) rfl)
  rw [e]
  refine cs_inj ?_
  show ((cs (x ++ y)).drop i.toNat).take _ = cs y
  have : i.toNat = (cs x).length := by rw [cs_len]; omega
  rw [cs_app, this, List.drop_left, List.take_of_length_le]
  rw [cs_len]
  omega

/-- what raw stands for: its references are read one by one -/
def Means (raw meant : List Nat) : Prop := ∃ j, j ≤ 3 ∧ ∀ n l, unescF (n + 1 + j) (raw ++ l) = (unescF (n + 1) l).map fun r => r.map fun m => meant ++ m

theorem unesc_plain_app {n : Nat} : ∀ {a : List Nat} (l : List Nat), 38 ∉ a → unescF (n + 1) (a ++ l) = (unescF (n + 1) l).map fun r => r.map fun m => a ++ m
  | [], l, _ => by
    rw [List.nil_append]
    cases unescF (n + 1) l with
    | none => rfl
    | some r => cases r <;> rfl
  | x :: a, [], h => by
    have A := ahead_app (c := 38) [] h
    rw [List.append_nil] at A ⊢
    have e : from_ 38 (x :: a) = [] := A.2
    show unescF (n + 1) (x :: a) = some (some ((x :: a) ++ []))
    unfold unescF
    rw [e, List.append_nil]
  | x :: a, y :: l, h => by
    have A := ahead_app (c := 38) (y :: l) h
    show unescF (n + 1) (x :: (a ++ y :: l)) = _
    have A1 : ahead 38 (x :: (a ++ y :: l)) = (x :: a) ++ ahead 38 (y :: l) := A.1
    have A2 : from_ 38 (x :: (a ++ y :: l)) = from_ 38 (y :: l) := A.2
    unfold unescF
    rw [A1, A2]
    split
    · rfl
    · split
      · rfl
      · rename_i b' _
        split
        · rfl
        · rfl
        · rw [Option.map_map]
          congr 1
          funext r
          cases r with
          | none => rfl
          | some m => simp
theorem unesc_ref_app {n : Nat} {w : List Nat} {c : Nat} (l : List Nat) (hw : signWord w = some (some c)) (h : 59 ∉ w) : unescF (n + 1 + 1) (38 :: (w ++ 59 :: l)) = (unescF (n + 1) l).map fun r => r.map fun m => [c] ++ m := by
  have A1 := ahead_self 38 (w ++ 59 :: l)
  have A2 := ahead_app (c := 59) (a := 38 :: w) (59 :: l) (by simpa using h)
  rw [(ahead_self 59 l).1, (ahead_self 59 l).2, List.append_nil] at A2
  have A3 : ahead 59 (38 :: (w ++ 59 :: l)) = 38 :: w := A2.1
  have A4 : from_ 59 (38 :: (w ++ 59 :: l)) = 59 :: l := A2.2
  rw [unescF.eq_3]
  rw [A1.2, A1.1]
  dsimp only
  rw [A4, A3]
  dsimp only
  rw [List.tail_cons, hw]
  rfl
theorem means_nil : Means [] [] := ⟨0, by omega, fun n l => by
  rw [List.nil_append]
  show unescF (n + 1) l = _
  cases unescF (n + 1) l with
  | none => rfl
  | some r => cases r <;> rfl⟩
/-- one piece of a value: plain, or a reference -/
def Piece (r m : List Nat) : Prop := (r = m ∧ 38 ∉ r) ∨ ∃ w c, r = 38 :: (w ++ [59]) ∧ signWord w = some (some c) ∧ 59 ∉ w ∧ m = [c]
theorem means_pieces : ∀ (ps : List (List Nat × List Nat)), ps.length ≤ 3 → (∀ p ∈ ps, Piece p.1 p.2) → ∃ j, j ≤ ps.length ∧ ∀ n l, unescF (n + 1 + j) ((ps.map (·.1)).flatten ++ l) = (unescF (n + 1) l).map fun r => r.map fun m => (ps.map (·.2)).flatten ++ m
  | [], _, _ => ⟨0, by omega, fun n l => by
    show unescF (n + 1) l = _
    cases unescF (n + 1) l with
    | none => rfl
    | some r => cases r <;> rfl⟩
  | p :: ps, hl, h => by
    obtain ⟨j, hj, ih⟩ := means_pieces ps (by simp only [List.length_cons] at hl; omega) fun q hq => h q (.tail _ hq)
    rcases h p (.head _) with ⟨e, hp⟩ | ⟨w, c, e, hw, h59, e2⟩
    · refine ⟨j, by simp only [List.length_cons]; omega, fun n l => ?_⟩
      have e3 : n + 1 + j = (n + j) + 1 := by omega
      rw [List.map_cons, List.flatten_cons, List.append_assoc, e3, unesc_plain_app _ hp, ← e3, ih n l, Option.map_map]
      congr 1
      funext r
      cases r with
      | none => rfl
      | some m => simp [e]
    · refine ⟨j + 1, by simp only [List.length_cons]; omega, fun n l => ?_⟩
      have e3 : n + 1 + (j + 1) = (n + j) + 1 + 1 := by omega
      have e4 : (n + j) + 1 = n + 1 + j := by omega
      have e5 : ((p :: ps).map (·.1)).flatten ++ l = 38 :: (w ++ 59 :: ((ps.map (·.1)).flatten ++ l)) := by
        rw [List.map_cons, List.flatten_cons, e]
        simp
      rw [e5, e3, unesc_ref_app _ hw h59, e4, ih n l, Option.map_map]
      congr 1
      funext r
      cases r with
      | none => rfl
      | some m => simp [e2]
theorem Means.of {ps : List (List Nat × List Nat)} (hl : ps.length ≤ 3) (h : ∀ p ∈ ps, Piece p.1 p.2) : Means (ps.map (·.1)).flatten (ps.map (·.2)).flatten := by
  obtain ⟨j, hj, e⟩ := means_pieces ps hl h
  exact ⟨j, by omega, e⟩
theorem Means.all {raw meant : List Nat} (h : Means raw meant) : unescF 8 raw = some (some meant) := by
  obtain ⟨j, hj, e⟩ := h
  have := e (7 - j) []
  have e8 : 7 - j + 1 + j = 8 := by omega
  rw [e8, List.append_nil] at this
  rw [this]
  show some (some (meant ++ [])) = _
  rw [List.append_nil]
theorem Means.bad {raw meant x : List Nat} (h : Means raw meant) (hx : ∀ n, unescF (n + 1) x = some none) : unescF 8 (raw ++ x) = some none := by
  obtain ⟨j, hj, e⟩ := h
  have := e (7 - j) x
  have e8 : 7 - j + 1 + j = 8 := by omega
  rw [e8, hx] at this
  exact this

/-- what the law has picked: a name, the blanks about the sign, the quote, the other one, the value, what it means -/
structure Picks (nm b1 b2 : PySem.Str) (q : Nat) (raw meant : PySem.Str) : Prop where
  name : isName (cs nm) = true
  b1 : ∀ c ∈ cs b1, isBlank c = true
  b2 : ∀ c ∈ cs b2, isBlank c = true
  hq : q = 34 ∨ q = 39
  noq : q ∉ cs raw
  nolt : 60 ∉ cs raw
  means : Means (cs raw) (cs meant)
section
variable {nm b1 b2 raw meant T : PySem.Str} {q : Nat} {keys : List PySem.Str}
theorem not_blank_q {c : Nat} (h : c = 34 ∨ c = 39) : isBlank c = false ∧ notEnd c = false ∧ c ≠ 61 := by
  rcases h with rfl | rfl <;> exact ⟨by decide, by decide, by decide⟩
theorem Picks.open_ (P : Picks nm b1 b2 q raw meant) {tl : List Nat} (hT : cs T = cs nm ++ (cs b1 ++ 61 :: (cs b2 ++ q :: tl))) (hk : nm ∉ keys) : readF 8 T keys = readQ 8 T nm ⟨#[q]⟩ ((cs nm ++ (cs b1 ++ 61 :: cs b2)).length + 1) := by
  rw [readF_sign hT P.name P.b1 P.b2 (by
    intro c hc
    have : q = c := by simpa using hc
    exact this ▸ (not_blank_q P.hq).1), cs_mk, if_neg hk]
  rcases P.hq with rfl | rfl
  · simp
  · simp
theorem Picks.known (P : Picks nm b1 b2 q raw meant) {tl : List Nat} (hT : cs T = cs nm ++ (cs b1 ++ 61 :: (cs b2 ++ q :: tl))) (hk : nm ∈ keys) : readF 8 T keys = some none := by
  rw [readF_sign hT P.name P.b1 P.b2 (by
    intro c hc
    have : q = c := by simpa using hc
    exact this ▸ (not_blank_q P.hq).1), cs_mk, if_pos hk]
theorem Picks.good (P : Picks nm b1 b2 q raw meant) {tl : List Nat} (hT : cs T = cs nm ++ (cs b1 ++ 61 :: (cs b2 ++ q :: (cs raw ++ q :: tl)))) (hk : nm ∉ keys) :
    readF 8 T keys = some (some (nm, cs meant, (((cs nm ++ (cs b1 ++ 61 :: (cs b2 ++ q :: (cs raw ++ [q])))).length : Nat) : Int))) := by
  rw [P.open_ hT hk, readQ_at' (pre := cs nm ++ (cs b1 ++ 61 :: (cs b2 ++ [q]))) (raw := cs raw) (r := tl) (by show cs T = _; rw [hT]; simp) (by simp only [List.length_append, List.length_cons, List.length_nil]; omega) P.noq, if_neg P.nolt, P.means.all]
  simp only [Option.map_some, Option.some.injEq, Prod.mk.injEq, true_and, List.length_append, List.length_cons, List.length_nil]
  omega
theorem Picks.noend (P : Picks nm b1 b2 q raw meant) (hT : cs T = cs nm ++ (cs b1 ++ 61 :: (cs b2 ++ q :: cs raw))) (hk : nm ∉ keys) : readF 8 T keys = some none := by
  rw [P.open_ hT hk, readQ_noend (pre := cs nm ++ (cs b1 ++ 61 :: (cs b2 ++ [q]))) (raw := cs raw) (by show cs T = _; rw [hT]; simp) (by simp only [List.length_append, List.length_cons, List.length_nil]; omega) P.noq]
theorem Picks.tag (P : Picks nm b1 b2 q raw meant) (hT : cs T = cs nm ++ (cs b1 ++ 61 :: (cs b2 ++ q :: ((cs raw ++ 60 :: cs raw) ++ [q])))) (hk : nm ∉ keys) : readF 8 T keys = some none := by
  rw [P.open_ hT hk, readQ_at' (pre := cs nm ++ (cs b1 ++ 61 :: (cs b2 ++ [q]))) (raw := cs raw ++ 60 :: cs raw) (r := []) (by show cs T = _; rw [hT]; simp) (by simp only [List.length_append, List.length_cons, List.length_nil]; omega) (by
    have := P.noq
    rcases P.hq with rfl | rfl <;> simpa using this), if_pos (by simp)]
theorem Picks.badref (P : Picks nm b1 b2 q raw meant) {x : List Nat} (hT : cs T = cs nm ++ (cs b1 ++ 61 :: (cs b2 ++ q :: ((cs raw ++ x) ++ [q])))) (hk : nm ∉ keys) (hx : ∀ n, unescF (n + 1) x = some none) (h1 : 34 ∉ x) (h2 : 39 ∉ x) (h3 : 60 ∉ x) : readF 8 T keys = some none := by
  rw [P.open_ hT hk, readQ_at' (pre := cs nm ++ (cs b1 ++ 61 :: (cs b2 ++ [q]))) (raw := cs raw ++ x) (r := []) (by show cs T = _; rw [hT]; simp) (by simp only [List.length_append, List.length_cons, List.length_nil]; omega) (by
    have := P.noq
    rcases P.hq with rfl | rfl <;> simp [this, h1, h2]), if_neg (by simp [P.nolt, h3]), P.means.bad hx]
  rfl
theorem Picks.noquote (P : Picks nm b1 b2 q raw meant) {tl : List Nat} (hT : cs T = cs nm ++ (cs b1 ++ 61 :: (cs b2 ++ tl))) (hk : nm ∉ keys) (h : ∀ c ∈ tl.head?, isBlank c = false ∧ c ≠ 34 ∧ c ≠ 39) : readF 8 T keys = some none := by
  rw [readF_sign hT P.name P.b1 P.b2 (fun c hc => (h c hc).1), cs_mk, if_neg hk, if_neg (show ¬ tl.head? = some 34 from fun z => (h 34 z).2.1 rfl), if_neg (show ¬ tl.head? = some 39 from fun z => (h 39 z).2.2 rfl)]
theorem noname {c : Nat} {r : List Nat} (hT : cs T = c :: r) (h : notEnd c = false ∨ noBegin c = true) : readF 8 T keys = some none := by
  have : nameOk T 0 = false := by
    rcases h with h | h
    · exact name_bad1 (by
        have := runEnd_at (T := T) (i := 0) (p := notEnd) (pre := []) (a := []) (r := c :: r) hT rfl (List.forall_mem_nil _) (fun d hd => (show c = d by simpa using hd) ▸ h)
        simpa using this)
    · unfold nameOk
      have e : T.cps.toList[(0 : Int).toNat]? = some c := by rw [show T.cps.toList = c :: r from hT]; rfl
      rw [e]
      simp [h]
  unfold readF
  rw [if_pos this]
end
end Xm
end

section
open PySem PySem.W PySem.Calls PyProof.Rows PySem.Spec
namespace Xm
local macro_rules | `(tactic| k_room) => `(tactic| ((try simp only [depth_mark, depth_under_make, depth_under_kw, depth_in1, depth_deeper, depth_caller]); (show (_ : Nat) < 1000); omega))
section
open PySem PySem.W PySem.Calls PyProof.Rows PySem.Spec
set_option maxRecDepth 100000
set_option maxHeartbeats 4000000

theorem fill_scan (w : World) : PySem.Challenge.rw_xm0717_01.prog = PySem.Challenge.rw_xm0717_01.prog ∧ hd.heap_39 w.params = hd.heap_39 w.params := by k_fill; exact ⟨rfl, rfl⟩


abbrev scanD (hT hA : Int) (kT tT kA tA : Tok) (T : PySem.Str) (at_ : Int) : List DictEntry := [⟨hT, .str (PySem.Str.ofString "text") kT, .str T tT⟩, ⟨hA, .str (PySem.Str.ofString "at") kA, .int at_ tA⟩]
theorem takes_ctr {x dx : Addr} {hT hA : Int} {kT tT kA tA : Tok} {T : PySem.Str} {at_ : Int} (hx : @LT.lt Nat _ dx x) (hT0 : T.length ≤ 100000) (h0 : 0 ≤ at_) (h1 : at_ ≤ T.length) {W : PySem.Str} {tW : Tok} (hW : W.length ≤ 1000) :
    Ctr 2 74 [.ref x, .str W tW] [(x, instObj 98 dx), (dx, dictOf (scanD hT hA kT tT kA tA T at_) 2)]
      (fun _ v l => (Txt.startswith3 T W at_ = true ∧ at_ + W.length ≤ T.length ∧ v = .bool true ∧ ∃ tA', l = [(x, instObj 98 dx), (dx, dictOf (scanD hT hA kT tT kA tA' T (at_ + W.length)) 2)]) ∨ (Txt.startswith3 T W at_ = false ∧ v = .bool false ∧ l = [(x, instObj 98 dx), (dx, dictOf (scanD hT hA kT tT kA tA T at_) 2)]))
      (fun _ => False) := by
  intro w mean mg mb d u gs base outer g s S hdp hup R hok her
  have hfill : PySem.Challenge.rw_xm0717_01.prog = PySem.Challenge.rw_xm0717_01.prog ∧ hd.heap_39 w.params = hd.heap_39 w.params := by k_fill; exact ⟨rfl, rfl⟩
  clear hfill
  have B := S.below
  have X := S.kin
  have T0 := S.top
  refine' enter (binds := [(PySem.Str.ofString "self", .ref x), (PySem.Str.ofString "word", .str W tW)]) S ?k6 ?k7 ?k8 ?k9 ?kB ?_ ?c2 ?c3 ?c4 ?c5; (case k6 => k_is); (case k7 => k_is); (case k8 => k_room); (case k9 => exact BindsTo.of_eq rfl); (case c5 => decide); (case kB => exact locs rfl); (case c2 => exact rfl); (case c3 => exact rfl); (case c4 => exact rfl)
  intro L' h₁ F N
  clear S
  show wpAny _ _ _ _ _ _
  k_fold
  repeat' (first | (k_unfold; (try dsimp only)) | (k_end; wrow_close) | (first | ((with_reducible show wpAny _ _ (leaving _ (Value.ref _)) _ _ _); (k_here; (refine' leave_onSN ?k1 ?k2 ?k3 ?k4 ?_; (case k3 => assumption); (case k1 => assumption); (case k4 => assumption); (case k2 => assumption); k_whole; intro h' R' _ U'; (try dsimp only at R' U' ⊢)))) | ((with_reducible show wpAny _ _ (leaving _ (Value.ref _)) _ _ _); (k_here; (refine' leave_newE ?k1 ?k0 ?k2 ?k3 ?kf ?kk ?_; (case kf => exact rfl); (case kk => exact rfl); (case k0 => assumption); (case k1 => assumption); (case k2 => assumption); (case k3 => k_asm); k_whole; intro h' R' U'; (try dsimp only at R' U' ⊢)))) | (k_here; (with_reducible show wpAny _ _ (call (Value.ref 44) [Value.str _ _]) _ _ _); (refine' sheet_call ?kB ?kF ?kX ?kT ?kc ?kk ?kr ?_; (case kc => exact rfl); (case kk => exact rfl); (case kF => k_asm); (case kB => k_asm); (case kX => k_asm); (case kT => k_asm); (case kr => (try dsimp only); omega)); (intro h' e' tk' x'); (refine' raisable_of ?kF ?kX x' ?_; (case kF => k_asm); (case kX => k_asm))) | (k_here; (with_reducible show wpAny _ _ (exec (Stmt.Raise (some (Expr.Call (Expr.Name (PySem.Str.ofString "SheetFault") _) _ _ _)) none _) _) _ _ _); refine Raise_sheetW rfl ?_) | ((with_reducible show wpAny _ _ (subscriptTail _ _ (Value.str _ _) (Value.int _ _)) _ _ _); (refine item_str (fitsSsize_of (N := 9223372036854775808) (by omega) (by omega) (Int.le_refl _)) (by omega) (by omega) ?_; intro _)) | (k_here; (with_reducible show wpAny _ _ (call (Value.builtin "len") [Value.str _ _]) _ _ _); refine P.len_str (by omega) ?_) | walk1) | (dsimp only; (first | ((with_reducible show wpAny _ _ (leaving _ (Value.ref _)) _ _ _); (k_here; (refine' leave_onSN ?k1 ?k2 ?k3 ?k4 ?_; (case k3 => assumption); (case k1 => assumption); (case k4 => assumption); (case k2 => assumption); k_whole; intro h' R' _ U'; (try dsimp only at R' U' ⊢)))) | ((with_reducible show wpAny _ _ (leaving _ (Value.ref _)) _ _ _); (k_here; (refine' leave_newE ?k1 ?k0 ?k2 ?k3 ?kf ?kk ?_; (case kf => exact rfl); (case kk => exact rfl); (case k0 => assumption); (case k1 => assumption); (case k2 => assumption); (case k3 => k_asm); k_whole; intro h' R' U'; (try dsimp only at R' U' ⊢)))) | (k_here; (with_reducible show wpAny _ _ (call (Value.ref 44) [Value.str _ _]) _ _ _); (refine' sheet_call ?kB ?kF ?kX ?kT ?kc ?kk ?kr ?_; (case kc => exact rfl); (case kk => exact rfl); (case kF => k_asm); (case kB => k_asm); (case kX => k_asm); (case kT => k_asm); (case kr => (try dsimp only); omega)); (intro h' e' tk' x'); (refine' raisable_of ?kF ?kX x' ?_; (case kF => k_asm); (case kX => k_asm))) | (k_here; (with_reducible show wpAny _ _ (exec (Stmt.Raise (some (Expr.Call (Expr.Name (PySem.Str.ofString "SheetFault") _) _ _ _)) none _) _) _ _ _); refine Raise_sheetW rfl ?_) | ((with_reducible show wpAny _ _ (subscriptTail _ _ (Value.str _ _) (Value.int _ _)) _ _ _); (refine item_str (fitsSsize_of (N := 9223372036854775808) (by omega) (by omega) (Int.le_refl _)) (by omega) (by omega) ?_; intro _)) | (k_here; (with_reducible show wpAny _ _ (call (Value.builtin "len") [Value.str _ _]) _ _ _); refine P.len_str (by omega) ?_) | walk1)) | (leave1; walk_say "STEP leave1"; try dsimp only) | fail "no step")
  all_goals first
    | ((with_reducible rename Txt.startswith3 T W at_ = true => hq); refine hok _ _ _ _ (Or.inl ⟨hq, starts_le h0 hq, rfl, _, rfl⟩) (Fr.keep (by assumption)) (new_of (by assumption)))
    | ((with_reducible rename Txt.startswith3 T W at_ = false => hq); refine hok _ _ _ _ (Or.inr ⟨hq, rfl, rfl⟩) (Fr.keep (by assumption)) (new_of (by assumption)))
    | w_report
theorem until_ctr {x dx : Addr} {hT hA : Int} {kT tT kA tA : Tok} {T : PySem.Str} {at_ : Int} (hx : @LT.lt Nat _ dx x) (hT0 : T.length ≤ 100000) (h0 : 0 ≤ at_) (h1 : at_ ≤ T.length) {W : PySem.Str} {tW : Tok} (hW : W.length ≤ 1000) :
    Ctr 8 81 [.ref x, .str W tW] [(x, instObj 98 dx), (dx, dictOf (scanD hT hA kT tT kA tA T at_) 2)]
      (fun _ v l => 0 ≤ Txt.find3 T W at_ ∧ ∃ t' tA', v = .str (Txt.slice T (some at_) (some (Txt.find3 T W at_))) t' ∧ l = [(x, instObj 98 dx), (dx, dictOf (scanD hT hA kT tT kA tA' T (Txt.find3 T W at_ + W.length)) 2)])
      (fun l => Txt.find3 T W at_ < 0 ∧ l = []) := by
  intro w mean mg mb d u gs base outer g s S hdp hup R hok her
  have hfill : PySem.Challenge.rw_xm0717_01.prog = PySem.Challenge.rw_xm0717_01.prog ∧ hd.heap_39 w.params = hd.heap_39 w.params := by k_fill; exact ⟨rfl, rfl⟩
  clear hfill
  have B := S.below
  have X := S.kin
  have T0 := S.top
  refine' enter (binds := [(PySem.Str.ofString "self", .ref x), (PySem.Str.ofString "word", .str W tW)]) S ?k6 ?k7 ?k8 ?k9 ?kB ?_ ?c2 ?c3 ?c4 ?c5; (case k6 => k_is); (case k7 => k_is); (case k8 => k_room); (case k9 => exact BindsTo.of_eq rfl); (case c5 => decide); (case kB => exact locs rfl); (case c2 => exact rfl); (case c3 => exact rfl); (case c4 => exact rfl)
  intro L' h₁ F N
  clear S
  show wpAny _ _ _ _ _ _
  k_fold
  repeat' (first | (k_unfold; (try dsimp only)) | (k_end; wrow_close) | (first | ((with_reducible show wpAny _ _ (leaving _ (Value.ref _)) _ _ _); (k_here; (refine' leave_onSN ?k1 ?k2 ?k3 ?k4 ?_; (case k3 => assumption); (case k1 => assumption); (case k4 => assumption); (case k2 => assumption); k_whole; intro h' R' _ U'; (try dsimp only at R' U' ⊢)))) | ((with_reducible show wpAny _ _ (leaving _ (Value.ref _)) _ _ _); (k_here; (refine' leave_newE ?k1 ?k0 ?k2 ?k3 ?kf ?kk ?_; (case kf => exact rfl); (case kk => exact rfl); (case k0 => assumption); (case k1 => assumption); (case k2 => assumption); (case k3 => k_asm); k_whole; intro h' R' U'; (try dsimp only at R' U' ⊢)))) | (k_here; (with_reducible show wpAny _ _ (call (Value.ref 44) [Value.str _ _]) _ _ _); (refine' sheet_call ?kB ?kF ?kX ?kT ?kc ?kk ?kr ?_; (case kc => exact rfl); (case kk => exact rfl); (case kF => k_asm); (case kB => k_asm); (case kX => k_asm); (case kT => k_asm); (case kr => (try dsimp only); omega)); (intro h' e' tk' x'); (refine' raisable_of ?kF ?kX x' ?_; (case kF => k_asm); (case kX => k_asm))) | (k_here; (with_reducible show wpAny _ _ (exec (Stmt.Raise (some (Expr.Call (Expr.Name (PySem.Str.ofString "SheetFault") _) _ _ _)) none _) _) _ _ _); refine Raise_sheetW rfl ?_) | ((with_reducible show wpAny _ _ (subscriptTail _ _ (Value.str _ _) (Value.int _ _)) _ _ _); (refine item_str (fitsSsize_of (N := 9223372036854775808) (by omega) (by omega) (Int.le_refl _)) (by omega) (by omega) ?_; intro _)) | (k_here; (with_reducible show wpAny _ _ (call (Value.builtin "len") [Value.str _ _]) _ _ _); refine P.len_str (by omega) ?_) | walk1) | (dsimp only; (first | ((with_reducible show wpAny _ _ (leaving _ (Value.ref _)) _ _ _); (k_here; (refine' leave_onSN ?k1 ?k2 ?k3 ?k4 ?_; (case k3 => assumption); (case k1 => assumption); (case k4 => assumption); (case k2 => assumption); k_whole; intro h' R' _ U'; (try dsimp only at R' U' ⊢)))) | ((with_reducible show wpAny _ _ (leaving _ (Value.ref _)) _ _ _); (k_here; (refine' leave_newE ?k1 ?k0 ?k2 ?k3 ?kf ?kk ?_; (case kf => exact rfl); (case kk => exact rfl); (case k0 => assumption); (case k1 => assumption); (case k2 => assumption); (case k3 => k_asm); k_whole; intro h' R' U'; (try dsimp only at R' U' ⊢)))) | (k_here; (with_reducible show wpAny _ _ (call (Value.ref 44) [Value.str _ _]) _ _ _); (refine' sheet_call ?kB ?kF ?kX ?kT ?kc ?kk ?kr ?_; (case kc => exact rfl); (case kk => exact rfl); (case kF => k_asm); (case kB => k_asm); (case kX => k_asm); (case kT => k_asm); (case kr => (try dsimp only); omega)); (intro h' e' tk' x'); (refine' raisable_of ?kF ?kX x' ?_; (case kF => k_asm); (case kX => k_asm))) | (k_here; (with_reducible show wpAny _ _ (exec (Stmt.Raise (some (Expr.Call (Expr.Name (PySem.Str.ofString "SheetFault") _) _ _ _)) none _) _) _ _ _); refine Raise_sheetW rfl ?_) | ((with_reducible show wpAny _ _ (subscriptTail _ _ (Value.str _ _) (Value.int _ _)) _ _ _); (refine item_str (fitsSsize_of (N := 9223372036854775808) (by omega) (by omega) (Int.le_refl _)) (by omega) (by omega) ?_; intro _)) | (k_here; (with_reducible show wpAny _ _ (call (Value.builtin "len") [Value.str _ _]) _ _ _); refine P.len_str (by omega) ?_) | walk1)) | (leave1; walk_say "STEP leave1"; try dsimp only) | fail "no step")
  all_goals first
    | ((with_reducible rename RaisedSN _ _ _ _ _ _ _ => hR); refine her _ [] _ _ ⟨by assumption, rfl⟩ (raised_sub hR (List.forall_mem_nil _)) (by assumption))
    | (refine hok _ _ _ _ ?_ (Fr.keep (by assumption)) (new_of (by assumption)); (refine ⟨by omega, _, _, rfl, rfl⟩))
    | w_report
theorem spaces_ctr {x dx : Addr} {hT hA : Int} {kT tT kA tA : Tok} {T : PySem.Str} {at_ : Int} (hx : @LT.lt Nat _ dx x) (hT0 : T.length ≤ 100000) (h0 : 0 ≤ at_) (h1 : at_ ≤ T.length)  :
    Ctr 4 88 [.ref x] [(x, instObj 98 dx), (dx, dictOf (scanD hT hA kT tT kA tA T at_) 2)]
      (fun _ v l => v = .none ∧ at_ ≤ runEnd isBlank T at_ ∧ runEnd isBlank T at_ ≤ T.length ∧ ∃ tA', l = [(x, instObj 98 dx), (dx, dictOf (scanD hT hA kT tT kA tA' T (runEnd isBlank T at_)) 2)])
      (fun _ => False) := by
  intro w mean mg mb d u gs base outer g s S hdp hup R hok her
  have hfill : PySem.Challenge.rw_xm0717_01.prog = PySem.Challenge.rw_xm0717_01.prog ∧ hd.heap_39 w.params = hd.heap_39 w.params := by k_fill; exact ⟨rfl, rfl⟩
  clear hfill
  have B := S.below
  have X := S.kin
  have T0 := S.top
  refine' enter (binds := [(PySem.Str.ofString "self", .ref x)]) S ?k6 ?k7 ?k8 ?k9 ?kB ?_ ?c2 ?c3 ?c4 ?c5; (case k6 => k_is); (case k7 => k_is); (case k8 => k_room); (case k9 => exact BindsTo.of_eq rfl); (case c5 => decide); (case kB => exact locs rfl); (case c2 => exact rfl); (case c3 => exact rfl); (case c4 => exact rfl)
  intro L' h₁ F N
  clear S
  show wpAny _ _ _ _ _ _
  k_fold
  repeat' (fail_if_success (with_reducible show wpAny _ _ (exec (Stmt.While _ _ _ _) _) _ _ _)); (first | (k_unfold; (try dsimp only)) | (k_end; wrow_close) | (first | ((with_reducible show wpAny _ _ (leaving _ (Value.ref _)) _ _ _); (k_here; (refine' leave_onSN ?k1 ?k2 ?k3 ?k4 ?_; (case k3 => assumption); (case k1 => assumption); (case k4 => assumption); (case k2 => assumption); k_whole; intro h' R' _ U'; (try dsimp only at R' U' ⊢)))) | ((with_reducible show wpAny _ _ (leaving _ (Value.ref _)) _ _ _); (k_here; (refine' leave_newE ?k1 ?k0 ?k2 ?k3 ?kf ?kk ?_; (case kf => exact rfl); (case kk => exact rfl); (case k0 => assumption); (case k1 => assumption); (case k2 => assumption); (case k3 => k_asm); k_whole; intro h' R' U'; (try dsimp only at R' U' ⊢)))) | (k_here; (with_reducible show wpAny _ _ (call (Value.ref 44) [Value.str _ _]) _ _ _); (refine' sheet_call ?kB ?kF ?kX ?kT ?kc ?kk ?kr ?_; (case kc => exact rfl); (case kk => exact rfl); (case kF => k_asm); (case kB => k_asm); (case kX => k_asm); (case kT => k_asm); (case kr => (try dsimp only); omega)); (intro h' e' tk' x'); (refine' raisable_of ?kF ?kX x' ?_; (case kF => k_asm); (case kX => k_asm))) | (k_here; (with_reducible show wpAny _ _ (exec (Stmt.Raise (some (Expr.Call (Expr.Name (PySem.Str.ofString "SheetFault") _) _ _ _)) none _) _) _ _ _); refine Raise_sheetW rfl ?_) | ((with_reducible show wpAny _ _ (subscriptTail _ _ (Value.str _ _) (Value.int _ _)) _ _ _); (refine item_str (fitsSsize_of (N := 9223372036854775808) (by omega) (by omega) (Int.le_refl _)) (by omega) (by omega) ?_; intro _)) | (k_here; (with_reducible show wpAny _ _ (call (Value.builtin "len") [Value.str _ _]) _ _ _); refine P.len_str (by omega) ?_) | walk1) | (dsimp only; (first | ((with_reducible show wpAny _ _ (leaving _ (Value.ref _)) _ _ _); (k_here; (refine' leave_onSN ?k1 ?k2 ?k3 ?k4 ?_; (case k3 => assumption); (case k1 => assumption); (case k4 => assumption); (case k2 => assumption); k_whole; intro h' R' _ U'; (try dsimp only at R' U' ⊢)))) | ((with_reducible show wpAny _ _ (leaving _ (Value.ref _)) _ _ _); (k_here; (refine' leave_newE ?k1 ?k0 ?k2 ?k3 ?kf ?kk ?_; (case kf => exact rfl); (case kk => exact rfl); (case k0 => assumption); (case k1 => assumption); (case k2 => assumption); (case k3 => k_asm); k_whole; intro h' R' U'; (try dsimp only at R' U' ⊢)))) | (k_here; (with_reducible show wpAny _ _ (call (Value.ref 44) [Value.str _ _]) _ _ _); (refine' sheet_call ?kB ?kF ?kX ?kT ?kc ?kk ?kr ?_; (case kc => exact rfl); (case kk => exact rfl); (case kF => k_asm); (case kB => k_asm); (case kX => k_asm); (case kT => k_asm); (case kr => (try dsimp only); omega)); (intro h' e' tk' x'); (refine' raisable_of ?kF ?kX x' ?_; (case kF => k_asm); (case kX => k_asm))) | (k_here; (with_reducible show wpAny _ _ (exec (Stmt.Raise (some (Expr.Call (Expr.Name (PySem.Str.ofString "SheetFault") _) _ _ _)) none _) _) _ _ _); refine Raise_sheetW rfl ?_) | ((with_reducible show wpAny _ _ (subscriptTail _ _ (Value.str _ _) (Value.int _ _)) _ _ _); (refine item_str (fitsSsize_of (N := 9223372036854775808) (by omega) (by omega) (Int.le_refl _)) (by omega) (by omega) ?_; intro _)) | (k_here; (with_reducible show wpAny _ _ (call (Value.builtin "len") [Value.str _ _]) _ _ _); refine P.len_str (by omega) ?_) | walk1)) | fail "no step")
  (with_reducible rename Fr _ _ _ _ => F1)
  (with_reducible rename News _ _ _ _ => N1)
  refine While_inv (n₀ := (T.length - at_).toNat) (fun n m₁ news₁ => m₁ = (fun y => List.lookup y [(PySem.Str.ofString "self", Value.ref x)].reverse) ∧ ∃ i tA', news₁ = [(x, instObj 98 dx), (dx, dictOf (scanD hT hA kT tT kA tA' T i) 2)] ∧ at_ ≤ i ∧ 0 ≤ i ∧ i ≤ T.length ∧ n = (T.length - i).toNat ∧ runEnd isBlank T i = runEnd isBlank T at_) F1 N1 ⟨rfl, at_, tA, rfl, Int.le_refl _, h0, h1, rfl, rfl⟩ ?_
  intro n m₁ news₁ h₂ tk₂ F₂ N₂ J
  obtain ⟨rfl, i, tA', rfl, hia, hi0, hi1, hn, hJ⟩ := J
  clear F1 N1
  repeat' (first | (k_unfold; (try dsimp only)) | (k_end; wrow_close) | (first | ((with_reducible show wpAny _ _ (leaving _ (Value.ref _)) _ _ _); (k_here; (refine' leave_onSN ?k1 ?k2 ?k3 ?k4 ?_; (case k3 => assumption); (case k1 => assumption); (case k4 => assumption); (case k2 => assumption); k_whole; intro h' R' _ U'; (try dsimp only at R' U' ⊢)))) | ((with_reducible show wpAny _ _ (leaving _ (Value.ref _)) _ _ _); (k_here; (refine' leave_newE ?k1 ?k0 ?k2 ?k3 ?kf ?kk ?_; (case kf => exact rfl); (case kk => exact rfl); (case k0 => assumption); (case k1 => assumption); (case k2 => assumption); (case k3 => k_asm); k_whole; intro h' R' U'; (try dsimp only at R' U' ⊢)))) | (k_here; (with_reducible show wpAny _ _ (call (Value.ref 44) [Value.str _ _]) _ _ _); (refine' sheet_call ?kB ?kF ?kX ?kT ?kc ?kk ?kr ?_; (case kc => exact rfl); (case kk => exact rfl); (case kF => k_asm); (case kB => k_asm); (case kX => k_asm); (case kT => k_asm); (case kr => (try dsimp only); omega)); (intro h' e' tk' x'); (refine' raisable_of ?kF ?kX x' ?_; (case kF => k_asm); (case kX => k_asm))) | (k_here; (with_reducible show wpAny _ _ (exec (Stmt.Raise (some (Expr.Call (Expr.Name (PySem.Str.ofString "SheetFault") _) _ _ _)) none _) _) _ _ _); refine Raise_sheetW rfl ?_) | ((with_reducible show wpAny _ _ (subscriptTail _ _ (Value.str _ _) (Value.int _ _)) _ _ _); (refine item_str (fitsSsize_of (N := 9223372036854775808) (by omega) (by omega) (Int.le_refl _)) (by omega) (by omega) ?_; intro _)) | (k_here; (with_reducible show wpAny _ _ (call (Value.builtin "len") [Value.str _ _]) _ _ _); refine P.len_str (by omega) ?_) | walk1) | (dsimp only; (first | ((with_reducible show wpAny _ _ (leaving _ (Value.ref _)) _ _ _); (k_here; (refine' leave_onSN ?k1 ?k2 ?k3 ?k4 ?_; (case k3 => assumption); (case k1 => assumption); (case k4 => assumption); (case k2 => assumption); k_whole; intro h' R' _ U'; (try dsimp only at R' U' ⊢)))) | ((with_reducible show wpAny _ _ (leaving _ (Value.ref _)) _ _ _); (k_here; (refine' leave_newE ?k1 ?k0 ?k2 ?k3 ?kf ?kk ?_; (case kf => exact rfl); (case kk => exact rfl); (case k0 => assumption); (case k1 => assumption); (case k2 => assumption); (case k3 => k_asm); k_whole; intro h' R' U'; (try dsimp only at R' U' ⊢)))) | (k_here; (with_reducible show wpAny _ _ (call (Value.ref 44) [Value.str _ _]) _ _ _); (refine' sheet_call ?kB ?kF ?kX ?kT ?kc ?kk ?kr ?_; (case kc => exact rfl); (case kk => exact rfl); (case kF => k_asm); (case kB => k_asm); (case kX => k_asm); (case kT => k_asm); (case kr => (try dsimp only); omega)); (intro h' e' tk' x'); (refine' raisable_of ?kF ?kX x' ?_; (case kF => k_asm); (case kX => k_asm))) | (k_here; (with_reducible show wpAny _ _ (exec (Stmt.Raise (some (Expr.Call (Expr.Name (PySem.Str.ofString "SheetFault") _) _ _ _)) none _) _) _ _ _); refine Raise_sheetW rfl ?_) | ((with_reducible show wpAny _ _ (subscriptTail _ _ (Value.str _ _) (Value.int _ _)) _ _ _); (refine item_str (fitsSsize_of (N := 9223372036854775808) (by omega) (by omega) (Int.le_refl _)) (by omega) (by omega) ?_; intro _)) | (k_here; (with_reducible show wpAny _ _ (call (Value.builtin "len") [Value.str _ _]) _ _ _); refine P.len_str (by omega) ?_) | walk1)) | (leave1; walk_say "STEP leave1"; try dsimp only) | fail "no step")
  all_goals first
    | ((with_reducible rename (List.isEmpty _ = true) => ho); obtain ⟨c, hd, hp⟩ := blanks_in hi0 (by omega) ho; refine hok _ _ _ _ ?_ (Fr.keep (by assumption)) (new_of (by assumption)); exact ⟨rfl, (runEnd_le h0 h1).1, (runEnd_le h0 h1).2, tA', by rw [← hJ, runEnd_no hd hp]⟩)
    | ((with_reducible rename (List.isEmpty _ = false) => ho); obtain ⟨c, hd, hp⟩ := blanks_in hi0 (by omega) ho; exact WhileStep.intro (by assumption) (by assumption) (n' := (T.length - (i + 1)).toNat) (by omega) ⟨rfl, i + 1, _, rfl, by omega, by omega, by omega, rfl, by rw [← hJ, runEnd_yes hi0 hd hp]⟩)
    | ((with_reducible rename ((T.length : Int) ≤ i) => ho); refine hok _ _ _ _ ?_ (Fr.keep (by assumption)) (new_of (by assumption)); exact ⟨rfl, (runEnd_le h0 h1).1, (runEnd_le h0 h1).2, tA', by rw [← hJ, runEnd_over ho]⟩)
    | w_report
theorem name_ctr {x dx : Addr} {hT hA : Int} {kT tT kA tA : Tok} {T : PySem.Str} {at_ : Int} (hx : @LT.lt Nat _ dx x) (hT0 : T.length ≤ 100000) (h0 : 0 ≤ at_) (h1 : at_ ≤ T.length)  :
    Ctr 8 95 [.ref x] [(x, instObj 98 dx), (dx, dictOf (scanD hT hA kT tT kA tA T at_) 2)]
      (fun _ v l => nameOk T at_ = true ∧ at_ ≤ runEnd notEnd T at_ ∧ runEnd notEnd T at_ ≤ T.length ∧ ∃ t' tA', v = .str (Txt.slice T (some at_) (some (runEnd notEnd T at_))) t' ∧ l = [(x, instObj 98 dx), (dx, dictOf (scanD hT hA kT tT kA tA' T (runEnd notEnd T at_)) 2)])
      (fun l => nameOk T at_ = false ∧ l = []) := by
  intro w mean mg mb d u gs base outer g s S hdp hup R hok her
  have hfill : PySem.Challenge.rw_xm0717_01.prog = PySem.Challenge.rw_xm0717_01.prog ∧ hd.heap_39 w.params = hd.heap_39 w.params := by k_fill; exact ⟨rfl, rfl⟩
  clear hfill
  have B := S.below
  have X := S.kin
  have T0 := S.top
  refine' enter (binds := [(PySem.Str.ofString "self", .ref x)]) S ?k6 ?k7 ?k8 ?k9 ?kB ?_ ?c2 ?c3 ?c4 ?c5; (case k6 => k_is); (case k7 => k_is); (case k8 => k_room); (case k9 => exact BindsTo.of_eq rfl); (case c5 => decide); (case kB => exact locs rfl); (case c2 => exact rfl); (case c3 => exact rfl); (case c4 => exact rfl)
  intro L' h₁ F N
  clear S
  show wpAny _ _ _ _ _ _
  k_fold
  repeat' (fail_if_success (with_reducible show wpAny _ _ (exec (Stmt.While _ _ _ _) _) _ _ _)); (first | (k_unfold; (try dsimp only)) | (k_end; wrow_close) | (first | ((with_reducible show wpAny _ _ (leaving _ (Value.ref _)) _ _ _); (k_here; (refine' leave_onSN ?k1 ?k2 ?k3 ?k4 ?_; (case k3 => assumption); (case k1 => assumption); (case k4 => assumption); (case k2 => assumption); k_whole; intro h' R' _ U'; (try dsimp only at R' U' ⊢)))) | ((with_reducible show wpAny _ _ (leaving _ (Value.ref _)) _ _ _); (k_here; (refine' leave_newE ?k1 ?k0 ?k2 ?k3 ?kf ?kk ?_; (case kf => exact rfl); (case kk => exact rfl); (case k0 => assumption); (case k1 => assumption); (case k2 => assumption); (case k3 => k_asm); k_whole; intro h' R' U'; (try dsimp only at R' U' ⊢)))) | (k_here; (with_reducible show wpAny _ _ (call (Value.ref 44) [Value.str _ _]) _ _ _); (refine' sheet_call ?kB ?kF ?kX ?kT ?kc ?kk ?kr ?_; (case kc => exact rfl); (case kk => exact rfl); (case kF => k_asm); (case kB => k_asm); (case kX => k_asm); (case kT => k_asm); (case kr => (try dsimp only); omega)); (intro h' e' tk' x'); (refine' raisable_of ?kF ?kX x' ?_; (case kF => k_asm); (case kX => k_asm))) | (k_here; (with_reducible show wpAny _ _ (exec (Stmt.Raise (some (Expr.Call (Expr.Name (PySem.Str.ofString "SheetFault") _) _ _ _)) none _) _) _ _ _); refine Raise_sheetW rfl ?_) | ((with_reducible show wpAny _ _ (subscriptTail _ _ (Value.str _ _) (Value.int _ _)) _ _ _); (refine item_str (fitsSsize_of (N := 9223372036854775808) (by omega) (by omega) (Int.le_refl _)) (by omega) (by omega) ?_; intro _)) | (k_here; (with_reducible show wpAny _ _ (call (Value.builtin "len") [Value.str _ _]) _ _ _); refine P.len_str (by omega) ?_) | walk1) | (dsimp only; (first | ((with_reducible show wpAny _ _ (leaving _ (Value.ref _)) _ _ _); (k_here; (refine' leave_onSN ?k1 ?k2 ?k3 ?k4 ?_; (case k3 => assumption); (case k1 => assumption); (case k4 => assumption); (case k2 => assumption); k_whole; intro h' R' _ U'; (try dsimp only at R' U' ⊢)))) | ((with_reducible show wpAny _ _ (leaving _ (Value.ref _)) _ _ _); (k_here; (refine' leave_newE ?k1 ?k0 ?k2 ?k3 ?kf ?kk ?_; (case kf => exact rfl); (case kk => exact rfl); (case k0 => assumption); (case k1 => assumption); (case k2 => assumption); (case k3 => k_asm); k_whole; intro h' R' U'; (try dsimp only at R' U' ⊢)))) | (k_here; (with_reducible show wpAny _ _ (call (Value.ref 44) [Value.str _ _]) _ _ _); (refine' sheet_call ?kB ?kF ?kX ?kT ?kc ?kk ?kr ?_; (case kc => exact rfl); (case kk => exact rfl); (case kF => k_asm); (case kB => k_asm); (case kX => k_asm); (case kT => k_asm); (case kr => (try dsimp only); omega)); (intro h' e' tk' x'); (refine' raisable_of ?kF ?kX x' ?_; (case kF => k_asm); (case kX => k_asm))) | (k_here; (with_reducible show wpAny _ _ (exec (Stmt.Raise (some (Expr.Call (Expr.Name (PySem.Str.ofString "SheetFault") _) _ _ _)) none _) _) _ _ _); refine Raise_sheetW rfl ?_) | ((with_reducible show wpAny _ _ (subscriptTail _ _ (Value.str _ _) (Value.int _ _)) _ _ _); (refine item_str (fitsSsize_of (N := 9223372036854775808) (by omega) (by omega) (Int.le_refl _)) (by omega) (by omega) ?_; intro _)) | (k_here; (with_reducible show wpAny _ _ (call (Value.builtin "len") [Value.str _ _]) _ _ _); refine P.len_str (by omega) ?_) | walk1)) | fail "no step")
  (with_reducible rename Fr _ _ _ _ => F1)
  (with_reducible rename News _ _ _ _ => N1)
  refine While_inv (n₀ := (T.length - at_).toNat) (fun n m₁ news₁ => m₁ = (fun y => if y = PySem.Str.ofString "begin" then some (Value.int at_ tA) else List.lookup y [(PySem.Str.ofString "self", Value.ref x)].reverse) ∧ ∃ i tA', news₁ = [(x, instObj 98 dx), (dx, dictOf (scanD hT hA kT tT kA tA' T i) 2)] ∧ at_ ≤ i ∧ 0 ≤ i ∧ i ≤ T.length ∧ n = (T.length - i).toNat ∧ runEnd notEnd T i = runEnd notEnd T at_) F1 N1 ⟨rfl, at_, tA, rfl, Int.le_refl _, h0, h1, rfl, rfl⟩ ?_
  intro n m₁ news₁ h₂ tk₂ F₂ N₂ J
  obtain ⟨rfl, i, tA', rfl, hia, hi0, hi1, hn, hJ⟩ := J
  clear F1 N1
  repeat' (first | (k_unfold; (try dsimp only)) | (k_end; wrow_close) | (first | ((with_reducible show wpAny _ _ (leaving _ (Value.ref _)) _ _ _); (k_here; (refine' leave_onSN ?k1 ?k2 ?k3 ?k4 ?_; (case k3 => assumption); (case k1 => assumption); (case k4 => assumption); (case k2 => assumption); k_whole; intro h' R' _ U'; (try dsimp only at R' U' ⊢)))) | ((with_reducible show wpAny _ _ (leaving _ (Value.ref _)) _ _ _); (k_here; (refine' leave_newE ?k1 ?k0 ?k2 ?k3 ?kf ?kk ?_; (case kf => exact rfl); (case kk => exact rfl); (case k0 => assumption); (case k1 => assumption); (case k2 => assumption); (case k3 => k_asm); k_whole; intro h' R' U'; (try dsimp only at R' U' ⊢)))) | (k_here; (with_reducible show wpAny _ _ (call (Value.ref 44) [Value.str _ _]) _ _ _); (refine' sheet_call ?kB ?kF ?kX ?kT ?kc ?kk ?kr ?_; (case kc => exact rfl); (case kk => exact rfl); (case kF => k_asm); (case kB => k_asm); (case kX => k_asm); (case kT => k_asm); (case kr => (try dsimp only); omega)); (intro h' e' tk' x'); (refine' raisable_of ?kF ?kX x' ?_; (case kF => k_asm); (case kX => k_asm))) | (k_here; (with_reducible show wpAny _ _ (exec (Stmt.Raise (some (Expr.Call (Expr.Name (PySem.Str.ofString "SheetFault") _) _ _ _)) none _) _) _ _ _); refine Raise_sheetW rfl ?_) | ((with_reducible show wpAny _ _ (subscriptTail _ _ (Value.str _ _) (Value.int _ _)) _ _ _); (refine item_str (fitsSsize_of (N := 9223372036854775808) (by omega) (by omega) (Int.le_refl _)) (by omega) (by omega) ?_; intro _)) | (k_here; (with_reducible show wpAny _ _ (call (Value.builtin "len") [Value.str _ _]) _ _ _); refine P.len_str (by omega) ?_) | walk1) | (dsimp only; (first | ((with_reducible show wpAny _ _ (leaving _ (Value.ref _)) _ _ _); (k_here; (refine' leave_onSN ?k1 ?k2 ?k3 ?k4 ?_; (case k3 => assumption); (case k1 => assumption); (case k4 => assumption); (case k2 => assumption); k_whole; intro h' R' _ U'; (try dsimp only at R' U' ⊢)))) | ((with_reducible show wpAny _ _ (leaving _ (Value.ref _)) _ _ _); (k_here; (refine' leave_newE ?k1 ?k0 ?k2 ?k3 ?kf ?kk ?_; (case kf => exact rfl); (case kk => exact rfl); (case k0 => assumption); (case k1 => assumption); (case k2 => assumption); (case k3 => k_asm); k_whole; intro h' R' U'; (try dsimp only at R' U' ⊢)))) | (k_here; (with_reducible show wpAny _ _ (call (Value.ref 44) [Value.str _ _]) _ _ _); (refine' sheet_call ?kB ?kF ?kX ?kT ?kc ?kk ?kr ?_; (case kc => exact rfl); (case kk => exact rfl); (case kF => k_asm); (case kB => k_asm); (case kX => k_asm); (case kT => k_asm); (case kr => (try dsimp only); omega)); (intro h' e' tk' x'); (refine' raisable_of ?kF ?kX x' ?_; (case kF => k_asm); (case kX => k_asm))) | (k_here; (with_reducible show wpAny _ _ (exec (Stmt.Raise (some (Expr.Call (Expr.Name (PySem.Str.ofString "SheetFault") _) _ _ _)) none _) _) _ _ _); refine Raise_sheetW rfl ?_) | ((with_reducible show wpAny _ _ (subscriptTail _ _ (Value.str _ _) (Value.int _ _)) _ _ _); (refine item_str (fitsSsize_of (N := 9223372036854775808) (by omega) (by omega) (Int.le_refl _)) (by omega) (by omega) ?_; intro _)) | (k_here; (with_reducible show wpAny _ _ (call (Value.builtin "len") [Value.str _ _]) _ _ _); refine P.len_str (by omega) ?_) | walk1)) | (leave1; walk_say "STEP leave1"; try dsimp only) | fail "no step")
  all_goals (first
    | ((with_reducible show WhileStep _ _ _ _ _ _ _); (with_reducible rename (List.isEmpty _ = true) => ho); obtain ⟨c, hd, hp⟩ := ends_in hi0 (by omega) ho; exact WhileStep.intro (by assumption) (by assumption) (n' := (T.length - (i + 1)).toNat) (by omega) ⟨rfl, i + 1, _, rfl, by omega, by omega, by omega, rfl, by rw [← hJ, runEnd_yes hi0 hd hp]⟩)
    | (have hend : runEnd notEnd T at_ = i := name_end hi0 hJ (by first | exact Or.inl (by assumption) | exact Or.inr (by assumption))
       first
        | ((with_reducible rename i = at_ => hq); (with_reducible rename RaisedSN _ _ _ _ _ _ _ => hR); refine her _ [] _ _ ⟨name_bad1 (hend.trans hq), rfl⟩ (raised_sub hR (List.forall_mem_nil _)) (by assumption))
        | ((with_reducible rename i ≠ at_ => hq); have hne : runEnd notEnd T at_ ≠ at_ := by rw [hend]; exact hq
           first
            | ((with_reducible rename RaisedSN _ _ _ _ _ _ _ => hR); refine her _ [] _ _ ⟨begin_in h0 h1 hne (by assumption), rfl⟩ (raised_sub hR (List.forall_mem_nil _)) (by assumption))
            | (refine hok _ _ _ _ ?_ (Fr.keep (by assumption)) (new_of (by assumption)); refine ⟨begin_in h0 h1 hne (by assumption), (runEnd_le h0 h1).1, (runEnd_le h0 h1).2, ?_⟩; rw [hend]; exact ⟨_, tA', rfl, rfl⟩)))
    | w_report)
end

section
open PySem PySem.W PySem.Calls PyProof.Rows PySem.Spec
set_option maxRecDepth 100000
set_option maxHeartbeats 4000000

theorem fill_sign (w : World) : PySem.Challenge.rw_xm0717_01.prog = PySem.Challenge.rw_xm0717_01.prog ∧ hd.heap_39 w.params = hd.heap_39 w.params := by k_fill; exact ⟨rfl, rfl⟩


local macro_rules | `(tactic| walk_at "eval ListComp") => `(tactic| (k_here; lcg_calm; k_dflt (refine ListComp_str (by k_asm) (by with_unfolding_all rfl) (by decide) (by rfl) (by decide) (by rfl) ?_ (fun _ => by rfl))))
local macro_rules | `(tactic| walk_at "SrcStr") => `(tactic| (k_here; k_dflt (refine SrcStr.intro (by rfl) (by k_asm) (by k_asm) (by decide +kernel) (by decide +kernel) ?_); intro g'; lct_lit))
local macro_rules | `(tactic| walk_at "CompRestT") => `(tactic| (with_unfolding_all first
  | (refine LCt.CompRestT.succ ?_; intro v' I' oI' C' oC' D' m' h' tk' E' hv' hC' hx' F' N' off' ne'; (obtain ⟨c9', u9', hc9', hv9'⟩ := hv'; subst hv9'; injection (hc9'.symm.trans (by rfl)) with hc8'; subst hc8'); (try simp only [LCg.Off3, and_true] at off'))
  | refine LCt.CompRestT.zero ?_))

local macro_rules | `(tactic| walk_at "call type:int") => `(tactic| (k_here; first | refine call_int_2 (gives_65 _ _) ?_ | refine call_int_2 (gives_3E _ _) ?_ | refine call_int_2 (gives_0 _ _) ?_))
theorem sign0 {tt : Tok} :
    Ctr 10 107 [.str (PySem.Str.ofString "lt") tt] [] (fun _ v l => l = [] ∧ ∃ c t, (some (PySem.Str.ofString "<")) = some c ∧ v = .str c t) (fun l => l = [] ∧ (some (PySem.Str.ofString "<")) = (none : Option PySem.Str)) := by
  intro w mean mg mb d u gs base outer g s S hdp hup R hok her
  have hfill : PySem.Challenge.rw_xm0717_01.prog = PySem.Challenge.rw_xm0717_01.prog ∧ hd.heap_39 w.params = hd.heap_39 w.params := by k_fill; exact ⟨rfl, rfl⟩
  clear hfill
  have B := S.below
  have X := S.kin
  have T0 := S.top
  refine' enterC (binds := [(PySem.Str.ofString "word", .str (PySem.Str.ofString "lt") tt)]) S ?k6 ?k7 ?k8 ?k9 ?kB ?kD ?_ ?c2 ?c3 ?c4; (case k6 => k_is); (case k7 => k_is); (case k8 => k_room); (case k9 => exact BindsTo.of_eq rfl); (case kB => exact rfl); (case kD => decide +kernel); (case c2 => exact rfl); (case c3 => exact rfl); (case c4 => exact rfl)
  intro L' h₁ tk' cells' F N Y l1
  (try k_lt l1)
  k_cells Y
  (try simp only [List.cons_append, List.nil_append] at N)
  clear S
  show wpAny _ _ _ _ _ _
  k_fold
  repeat' (first | ((with_reducible rename (List.isEmpty _ = true) => hz9); exact absurd hz9 (by decide +kernel)) | (k_unfold; (try dsimp only)) | (k_end; wrow_close) | (first | ((with_reducible show wpAny _ _ (leaving _ (Value.ref _)) _ _ _); (k_here; (refine' leave_onSN ?k1 ?k2 ?k3 ?k4 ?_; (case k3 => assumption); (case k1 => assumption); (case k4 => assumption); (case k2 => assumption); k_whole; intro h' R' _ U'; (try dsimp only at R' U' ⊢)))) | ((with_reducible show wpAny _ _ (leaving _ (Value.ref _)) _ _ _); (k_here; (refine' leave_newE ?k1 ?k0 ?k2 ?k3 ?kf ?kk ?_; (case kf => exact rfl); (case kk => exact rfl); (case k0 => assumption); (case k1 => assumption); (case k2 => assumption); (case k3 => k_asm); k_whole; intro h' R' U'; (try dsimp only at R' U' ⊢)))) | (k_here; (with_reducible show wpAny _ _ (call (Value.ref 44) [Value.str _ _]) _ _ _); (refine' sheet_call ?kB ?kF ?kX ?kT ?kc ?kk ?kr ?_; (case kc => exact rfl); (case kk => exact rfl); (case kF => k_asm); (case kB => k_asm); (case kX => k_asm); (case kT => k_asm); (case kr => (try dsimp only); omega)); (intro h' e' tk' x'); (refine' raisable_of ?kF ?kX x' ?_; (case kF => k_asm); (case kX => k_asm))) | (k_here; (with_reducible show wpAny _ _ (exec (Stmt.Raise (some (Expr.Call (Expr.Name (PySem.Str.ofString "SheetFault") _) _ _ _)) none _) _) _ _ _); refine Raise_sheetW rfl ?_) | ((with_reducible show wpAny _ _ (subscriptTail _ _ (Value.str _ _) (Value.int _ _)) _ _ _); (refine item_str (fitsSsize_of (N := 9223372036854775808) (by omega) (by omega) (Int.le_refl _)) (by omega) (by omega) ?_; intro _)) | (k_here; (with_reducible show wpAny _ _ (call (Value.builtin "len") [Value.str _ _]) _ _ _); refine P.len_str (by omega) ?_) | walk1) | (dsimp only; (first | ((with_reducible show wpAny _ _ (leaving _ (Value.ref _)) _ _ _); (k_here; (refine' leave_onSN ?k1 ?k2 ?k3 ?k4 ?_; (case k3 => assumption); (case k1 => assumption); (case k4 => assumption); (case k2 => assumption); k_whole; intro h' R' _ U'; (try dsimp only at R' U' ⊢)))) | ((with_reducible show wpAny _ _ (leaving _ (Value.ref _)) _ _ _); (k_here; (refine' leave_newE ?k1 ?k0 ?k2 ?k3 ?kf ?kk ?_; (case kf => exact rfl); (case kk => exact rfl); (case k0 => assumption); (case k1 => assumption); (case k2 => assumption); (case k3 => k_asm); k_whole; intro h' R' U'; (try dsimp only at R' U' ⊢)))) | (k_here; (with_reducible show wpAny _ _ (call (Value.ref 44) [Value.str _ _]) _ _ _); (refine' sheet_call ?kB ?kF ?kX ?kT ?kc ?kk ?kr ?_; (case kc => exact rfl); (case kk => exact rfl); (case kF => k_asm); (case kB => k_asm); (case kX => k_asm); (case kT => k_asm); (case kr => (try dsimp only); omega)); (intro h' e' tk' x'); (refine' raisable_of ?kF ?kX x' ?_; (case kF => k_asm); (case kX => k_asm))) | (k_here; (with_reducible show wpAny _ _ (exec (Stmt.Raise (some (Expr.Call (Expr.Name (PySem.Str.ofString "SheetFault") _) _ _ _)) none _) _) _ _ _); refine Raise_sheetW rfl ?_) | ((with_reducible show wpAny _ _ (subscriptTail _ _ (Value.str _ _) (Value.int _ _)) _ _ _); (refine item_str (fitsSsize_of (N := 9223372036854775808) (by omega) (by omega) (Int.le_refl _)) (by omega) (by omega) ?_; intro _)) | (k_here; (with_reducible show wpAny _ _ (call (Value.builtin "len") [Value.str _ _]) _ _ _); refine P.len_str (by omega) ?_) | walk1)) | (leave1; walk_say "STEP leave1"; try dsimp only) | fail "no step")
  all_goals first
    | ((with_reducible rename (List.isEmpty _ = true) => hz9); exact absurd hz9 (by decide +kernel))
    | ((with_reducible rename RaisedSN _ _ _ _ _ _ _ => hR); refine her _ [] _ _ ⟨rfl, rfl⟩ (raised_sub hR (List.forall_mem_nil _)) (by assumption))
    | (refine hok _ [] _ _ ⟨rfl, _, _, rfl, rfl⟩ (Fr.keep (by assumption)) (List.forall_mem_nil _))
    | w_report
theorem sl1_0 : Txt.slice (PySem.Str.ofString "#65") none (some 2) = (PySem.Str.ofString "#6") := by decide +kernel
theorem sl1_1 : Txt.slice (PySem.Str.ofString "#65") none (some 1) = (PySem.Str.ofString "#") := by decide +kernel
theorem sl1_2 : Txt.slice (PySem.Str.ofString "#65") (some 1) none = (PySem.Str.ofString "65") := by decide +kernel
theorem sign1 {tt : Tok} :
    Ctr 10 107 [.str (PySem.Str.ofString "#65") tt] [] (fun _ v l => l = [] ∧ ∃ c t, (some (PySem.Str.ofString "A")) = some c ∧ v = .str c t) (fun l => l = [] ∧ (some (PySem.Str.ofString "A")) = (none : Option PySem.Str)) := by
  intro w mean mg mb d u gs base outer g s S hdp hup R hok her
  have hfill : PySem.Challenge.rw_xm0717_01.prog = PySem.Challenge.rw_xm0717_01.prog ∧ hd.heap_39 w.params = hd.heap_39 w.params := by k_fill; exact ⟨rfl, rfl⟩
  clear hfill
  have B := S.below
  have X := S.kin
  have T0 := S.top
  refine' enterC (binds := [(PySem.Str.ofString "word", .str (PySem.Str.ofString "#65") tt)]) S ?k6 ?k7 ?k8 ?k9 ?kB ?kD ?_ ?c2 ?c3 ?c4; (case k6 => k_is); (case k7 => k_is); (case k8 => k_room); (case k9 => exact BindsTo.of_eq rfl); (case kB => exact rfl); (case kD => decide +kernel); (case c2 => exact rfl); (case c3 => exact rfl); (case c4 => exact rfl)
  intro L' h₁ tk' cells' F N Y l1
  (try k_lt l1)
  k_cells Y
  (try simp only [List.cons_append, List.nil_append] at N)
  clear S
  show wpAny _ _ _ _ _ _
  k_fold
  repeat' (first | (simp only [sl1_0, sl1_1, sl1_2]) | ((with_reducible rename (List.isEmpty _ = true) => hz9); exact absurd hz9 (by decide +kernel)) | (k_unfold; (try dsimp only)) | (k_end; wrow_close) | (first | ((with_reducible show wpAny _ _ (leaving _ (Value.ref _)) _ _ _); (k_here; (refine' leave_onSN ?k1 ?k2 ?k3 ?k4 ?_; (case k3 => assumption); (case k1 => assumption); (case k4 => assumption); (case k2 => assumption); k_whole; intro h' R' _ U'; (try dsimp only at R' U' ⊢)))) | ((with_reducible show wpAny _ _ (leaving _ (Value.ref _)) _ _ _); (k_here; (refine' leave_newE ?k1 ?k0 ?k2 ?k3 ?kf ?kk ?_; (case kf => exact rfl); (case kk => exact rfl); (case k0 => assumption); (case k1 => assumption); (case k2 => assumption); (case k3 => k_asm); k_whole; intro h' R' U'; (try dsimp only at R' U' ⊢)))) | (k_here; (with_reducible show wpAny _ _ (call (Value.ref 44) [Value.str _ _]) _ _ _); (refine' sheet_call ?kB ?kF ?kX ?kT ?kc ?kk ?kr ?_; (case kc => exact rfl); (case kk => exact rfl); (case kF => k_asm); (case kB => k_asm); (case kX => k_asm); (case kT => k_asm); (case kr => (try dsimp only); omega)); (intro h' e' tk' x'); (refine' raisable_of ?kF ?kX x' ?_; (case kF => k_asm); (case kX => k_asm))) | (k_here; (with_reducible show wpAny _ _ (exec (Stmt.Raise (some (Expr.Call (Expr.Name (PySem.Str.ofString "SheetFault") _) _ _ _)) none _) _) _ _ _); refine Raise_sheetW rfl ?_) | ((with_reducible show wpAny _ _ (subscriptTail _ _ (Value.str _ _) (Value.int _ _)) _ _ _); (refine item_str (fitsSsize_of (N := 9223372036854775808) (by omega) (by omega) (Int.le_refl _)) (by omega) (by omega) ?_; intro _)) | (k_here; (with_reducible show wpAny _ _ (call (Value.builtin "len") [Value.str _ _]) _ _ _); refine P.len_str (by omega) ?_) | walk1) | (dsimp only; (first | ((with_reducible show wpAny _ _ (leaving _ (Value.ref _)) _ _ _); (k_here; (refine' leave_onSN ?k1 ?k2 ?k3 ?k4 ?_; (case k3 => assumption); (case k1 => assumption); (case k4 => assumption); (case k2 => assumption); k_whole; intro h' R' _ U'; (try dsimp only at R' U' ⊢)))) | ((with_reducible show wpAny _ _ (leaving _ (Value.ref _)) _ _ _); (k_here; (refine' leave_newE ?k1 ?k0 ?k2 ?k3 ?kf ?kk ?_; (case kf => exact rfl); (case kk => exact rfl); (case k0 => assumption); (case k1 => assumption); (case k2 => assumption); (case k3 => k_asm); k_whole; intro h' R' U'; (try dsimp only at R' U' ⊢)))) | (k_here; (with_reducible show wpAny _ _ (call (Value.ref 44) [Value.str _ _]) _ _ _); (refine' sheet_call ?kB ?kF ?kX ?kT ?kc ?kk ?kr ?_; (case kc => exact rfl); (case kk => exact rfl); (case kF => k_asm); (case kB => k_asm); (case kX => k_asm); (case kT => k_asm); (case kr => (try dsimp only); omega)); (intro h' e' tk' x'); (refine' raisable_of ?kF ?kX x' ?_; (case kF => k_asm); (case kX => k_asm))) | (k_here; (with_reducible show wpAny _ _ (exec (Stmt.Raise (some (Expr.Call (Expr.Name (PySem.Str.ofString "SheetFault") _) _ _ _)) none _) _) _ _ _); refine Raise_sheetW rfl ?_) | ((with_reducible show wpAny _ _ (subscriptTail _ _ (Value.str _ _) (Value.int _ _)) _ _ _); (refine item_str (fitsSsize_of (N := 9223372036854775808) (by omega) (by omega) (Int.le_refl _)) (by omega) (by omega) ?_; intro _)) | (k_here; (with_reducible show wpAny _ _ (call (Value.builtin "len") [Value.str _ _]) _ _ _); refine P.len_str (by omega) ?_) | walk1)) | (leave1; walk_say "STEP leave1"; try dsimp only) | fail "no step")
  all_goals first
    | ((with_reducible rename (List.isEmpty _ = true) => hz9); exact absurd hz9 (by decide +kernel))
    | ((with_reducible rename RaisedSN _ _ _ _ _ _ _ => hR); refine her _ [] _ _ ⟨rfl, rfl⟩ (raised_sub hR (List.forall_mem_nil _)) (by assumption))
    | (refine hok _ [] _ _ ⟨rfl, _, _, rfl, rfl⟩ (Fr.keep (by assumption)) (List.forall_mem_nil _))
    | w_report
theorem sl2_0 : Txt.slice (PySem.Str.ofString "#x3E") none (some 2) = (PySem.Str.ofString "#x") := by decide +kernel
theorem sl2_1 : Txt.slice (PySem.Str.ofString "#x3E") none (some 1) = (PySem.Str.ofString "#") := by decide +kernel
theorem sl2_2 : Txt.slice (PySem.Str.ofString "#x3E") (some 2) none = (PySem.Str.ofString "3E") := by decide +kernel
theorem sign2 {tt : Tok} :
    Ctr 10 107 [.str (PySem.Str.ofString "#x3E") tt] [] (fun _ v l => l = [] ∧ ∃ c t, (some (PySem.Str.ofString ">")) = some c ∧ v = .str c t) (fun l => l = [] ∧ (some (PySem.Str.ofString ">")) = (none : Option PySem.Str)) := by
  intro w mean mg mb d u gs base outer g s S hdp hup R hok her
  have hfill : PySem.Challenge.rw_xm0717_01.prog = PySem.Challenge.rw_xm0717_01.prog ∧ hd.heap_39 w.params = hd.heap_39 w.params := by k_fill; exact ⟨rfl, rfl⟩
  clear hfill
  have B := S.below
  have X := S.kin
  have T0 := S.top
  refine' enterC (binds := [(PySem.Str.ofString "word", .str (PySem.Str.ofString "#x3E") tt)]) S ?k6 ?k7 ?k8 ?k9 ?kB ?kD ?_ ?c2 ?c3 ?c4; (case k6 => k_is); (case k7 => k_is); (case k8 => k_room); (case k9 => exact BindsTo.of_eq rfl); (case kB => exact rfl); (case kD => decide +kernel); (case c2 => exact rfl); (case c3 => exact rfl); (case c4 => exact rfl)
  intro L' h₁ tk' cells' F N Y l1
  (try k_lt l1)
  k_cells Y
  (try simp only [List.cons_append, List.nil_append] at N)
  clear S
  show wpAny _ _ _ _ _ _
  k_fold
  repeat' (first | (simp only [sl2_0, sl2_1, sl2_2]) | ((with_reducible rename (List.isEmpty _ = true) => hz9); exact absurd hz9 (by decide +kernel)) | (k_unfold; (try dsimp only)) | (k_end; wrow_close) | (first | ((with_reducible show wpAny _ _ (leaving _ (Value.ref _)) _ _ _); (k_here; (refine' leave_onSN ?k1 ?k2 ?k3 ?k4 ?_; (case k3 => assumption); (case k1 => assumption); (case k4 => assumption); (case k2 => assumption); k_whole; intro h' R' _ U'; (try dsimp only at R' U' ⊢)))) | ((with_reducible show wpAny _ _ (leaving _ (Value.ref _)) _ _ _); (k_here; (refine' leave_newE ?k1 ?k0 ?k2 ?k3 ?kf ?kk ?_; (case kf => exact rfl); (case kk => exact rfl); (case k0 => assumption); (case k1 => assumption); (case k2 => assumption); (case k3 => k_asm); k_whole; intro h' R' U'; (try dsimp only at R' U' ⊢)))) | (k_here; (with_reducible show wpAny _ _ (call (Value.ref 44) [Value.str _ _]) _ _ _); (refine' sheet_call ?kB ?kF ?kX ?kT ?kc ?kk ?kr ?_; (case kc => exact rfl); (case kk => exact rfl); (case kF => k_asm); (case kB => k_asm); (case kX => k_asm); (case kT => k_asm); (case kr => (try dsimp only); omega)); (intro h' e' tk' x'); (refine' raisable_of ?kF ?kX x' ?_; (case kF => k_asm); (case kX => k_asm))) | (k_here; (with_reducible show wpAny _ _ (exec (Stmt.Raise (some (Expr.Call (Expr.Name (PySem.Str.ofString "SheetFault") _) _ _ _)) none _) _) _ _ _); refine Raise_sheetW rfl ?_) | ((with_reducible show wpAny _ _ (subscriptTail _ _ (Value.str _ _) (Value.int _ _)) _ _ _); (refine item_str (fitsSsize_of (N := 9223372036854775808) (by omega) (by omega) (Int.le_refl _)) (by omega) (by omega) ?_; intro _)) | (k_here; (with_reducible show wpAny _ _ (call (Value.builtin "len") [Value.str _ _]) _ _ _); refine P.len_str (by omega) ?_) | walk1) | (dsimp only; (first | ((with_reducible show wpAny _ _ (leaving _ (Value.ref _)) _ _ _); (k_here; (refine' leave_onSN ?k1 ?k2 ?k3 ?k4 ?_; (case k3 => assumption); (case k1 => assumption); (case k4 => assumption); (case k2 => assumption); k_whole; intro h' R' _ U'; (try dsimp only at R' U' ⊢)))) | ((with_reducible show wpAny _ _ (leaving _ (Value.ref _)) _ _ _); (k_here; (refine' leave_newE ?k1 ?k0 ?k2 ?k3 ?kf ?kk ?_; (case kf => exact rfl); (case kk => exact rfl); (case k0 => assumption); (case k1 => assumption); (case k2 => assumption); (case k3 => k_asm); k_whole; intro h' R' U'; (try dsimp only at R' U' ⊢)))) | (k_here; (with_reducible show wpAny _ _ (call (Value.ref 44) [Value.str _ _]) _ _ _); (refine' sheet_call ?kB ?kF ?kX ?kT ?kc ?kk ?kr ?_; (case kc => exact rfl); (case kk => exact rfl); (case kF => k_asm); (case kB => k_asm); (case kX => k_asm); (case kT => k_asm); (case kr => (try dsimp only); omega)); (intro h' e' tk' x'); (refine' raisable_of ?kF ?kX x' ?_; (case kF => k_asm); (case kX => k_asm))) | (k_here; (with_reducible show wpAny _ _ (exec (Stmt.Raise (some (Expr.Call (Expr.Name (PySem.Str.ofString "SheetFault") _) _ _ _)) none _) _) _ _ _); refine Raise_sheetW rfl ?_) | ((with_reducible show wpAny _ _ (subscriptTail _ _ (Value.str _ _) (Value.int _ _)) _ _ _); (refine item_str (fitsSsize_of (N := 9223372036854775808) (by omega) (by omega) (Int.le_refl _)) (by omega) (by omega) ?_; intro _)) | (k_here; (with_reducible show wpAny _ _ (call (Value.builtin "len") [Value.str _ _]) _ _ _); refine P.len_str (by omega) ?_) | walk1)) | (leave1; walk_say "STEP leave1"; try dsimp only) | fail "no step")
  all_goals first
    | ((with_reducible rename (List.isEmpty _ = true) => hz9); exact absurd hz9 (by decide +kernel))
    | ((with_reducible rename RaisedSN _ _ _ _ _ _ _ => hR); refine her _ [] _ _ ⟨rfl, rfl⟩ (raised_sub hR (List.forall_mem_nil _)) (by assumption))
    | (refine hok _ [] _ _ ⟨rfl, _, _, rfl, rfl⟩ (Fr.keep (by assumption)) (List.forall_mem_nil _))
    | w_report
theorem sl3_0 : Txt.slice (PySem.Str.ofString "x") none (some 2) = (PySem.Str.ofString "x") := by decide +kernel
theorem sl3_1 : Txt.slice (PySem.Str.ofString "x") none (some 1) = (PySem.Str.ofString "x") := by decide +kernel
theorem sl3_2 : Txt.slice (PySem.Str.ofString "x") (some 1) none = (PySem.Str.ofString "") := by decide +kernel
theorem sign3 {tt : Tok} :
    Ctr 10 107 [.str (PySem.Str.ofString "x") tt] [] (fun _ v l => l = [] ∧ ∃ c t, none = some c ∧ v = .str c t) (fun l => l = [] ∧ none = (none : Option PySem.Str)) := by
  intro w mean mg mb d u gs base outer g s S hdp hup R hok her
  have hfill : PySem.Challenge.rw_xm0717_01.prog = PySem.Challenge.rw_xm0717_01.prog ∧ hd.heap_39 w.params = hd.heap_39 w.params := by k_fill; exact ⟨rfl, rfl⟩
  clear hfill
  have B := S.below
  have X := S.kin
  have T0 := S.top
  refine' enterC (binds := [(PySem.Str.ofString "word", .str (PySem.Str.ofString "x") tt)]) S ?k6 ?k7 ?k8 ?k9 ?kB ?kD ?_ ?c2 ?c3 ?c4; (case k6 => k_is); (case k7 => k_is); (case k8 => k_room); (case k9 => exact BindsTo.of_eq rfl); (case kB => exact rfl); (case kD => decide +kernel); (case c2 => exact rfl); (case c3 => exact rfl); (case c4 => exact rfl)
  intro L' h₁ tk' cells' F N Y l1
  (try k_lt l1)
  k_cells Y
  (try simp only [List.cons_append, List.nil_append] at N)
  clear S
  show wpAny _ _ _ _ _ _
  k_fold
  repeat' (first | (simp only [sl3_0, sl3_1, sl3_2]) | ((with_reducible rename (List.isEmpty _ = true) => hz9); exact absurd hz9 (by decide +kernel)) | (k_unfold; (try dsimp only)) | (k_end; wrow_close) | (first | ((with_reducible show wpAny _ _ (leaving _ (Value.ref _)) _ _ _); (k_here; (refine' leave_onSN ?k1 ?k2 ?k3 ?k4 ?_; (case k3 => assumption); (case k1 => assumption); (case k4 => assumption); (case k2 => assumption); k_whole; intro h' R' _ U'; (try dsimp only at R' U' ⊢)))) | ((with_reducible show wpAny _ _ (leaving _ (Value.ref _)) _ _ _); (k_here; (refine' leave_newE ?k1 ?k0 ?k2 ?k3 ?kf ?kk ?_; (case kf => exact rfl); (case kk => exact rfl); (case k0 => assumption); (case k1 => assumption); (case k2 => assumption); (case k3 => k_asm); k_whole; intro h' R' U'; (try dsimp only at R' U' ⊢)))) | (k_here; (with_reducible show wpAny _ _ (call (Value.ref 44) [Value.str _ _]) _ _ _); (refine' sheet_call ?kB ?kF ?kX ?kT ?kc ?kk ?kr ?_; (case kc => exact rfl); (case kk => exact rfl); (case kF => k_asm); (case kB => k_asm); (case kX => k_asm); (case kT => k_asm); (case kr => (try dsimp only); omega)); (intro h' e' tk' x'); (refine' raisable_of ?kF ?kX x' ?_; (case kF => k_asm); (case kX => k_asm))) | (k_here; (with_reducible show wpAny _ _ (exec (Stmt.Raise (some (Expr.Call (Expr.Name (PySem.Str.ofString "SheetFault") _) _ _ _)) none _) _) _ _ _); refine Raise_sheetW rfl ?_) | ((with_reducible show wpAny _ _ (subscriptTail _ _ (Value.str _ _) (Value.int _ _)) _ _ _); (refine item_str (fitsSsize_of (N := 9223372036854775808) (by omega) (by omega) (Int.le_refl _)) (by omega) (by omega) ?_; intro _)) | (k_here; (with_reducible show wpAny _ _ (call (Value.builtin "len") [Value.str _ _]) _ _ _); refine P.len_str (by omega) ?_) | walk1) | (dsimp only; (first | ((with_reducible show wpAny _ _ (leaving _ (Value.ref _)) _ _ _); (k_here; (refine' leave_onSN ?k1 ?k2 ?k3 ?k4 ?_; (case k3 => assumption); (case k1 => assumption); (case k4 => assumption); (case k2 => assumption); k_whole; intro h' R' _ U'; (try dsimp only at R' U' ⊢)))) | ((with_reducible show wpAny _ _ (leaving _ (Value.ref _)) _ _ _); (k_here; (refine' leave_newE ?k1 ?k0 ?k2 ?k3 ?kf ?kk ?_; (case kf => exact rfl); (case kk => exact rfl); (case k0 => assumption); (case k1 => assumption); (case k2 => assumption); (case k3 => k_asm); k_whole; intro h' R' U'; (try dsimp only at R' U' ⊢)))) | (k_here; (with_reducible show wpAny _ _ (call (Value.ref 44) [Value.str _ _]) _ _ _); (refine' sheet_call ?kB ?kF ?kX ?kT ?kc ?kk ?kr ?_; (case kc => exact rfl); (case kk => exact rfl); (case kF => k_asm); (case kB => k_asm); (case kX => k_asm); (case kT => k_asm); (case kr => (try dsimp only); omega)); (intro h' e' tk' x'); (refine' raisable_of ?kF ?kX x' ?_; (case kF => k_asm); (case kX => k_asm))) | (k_here; (with_reducible show wpAny _ _ (exec (Stmt.Raise (some (Expr.Call (Expr.Name (PySem.Str.ofString "SheetFault") _) _ _ _)) none _) _) _ _ _); refine Raise_sheetW rfl ?_) | ((with_reducible show wpAny _ _ (subscriptTail _ _ (Value.str _ _) (Value.int _ _)) _ _ _); (refine item_str (fitsSsize_of (N := 9223372036854775808) (by omega) (by omega) (Int.le_refl _)) (by omega) (by omega) ?_; intro _)) | (k_here; (with_reducible show wpAny _ _ (call (Value.builtin "len") [Value.str _ _]) _ _ _); refine P.len_str (by omega) ?_) | walk1)) | (leave1; walk_say "STEP leave1"; try dsimp only) | fail "no step")
  all_goals first
    | ((with_reducible rename (List.isEmpty _ = true) => hz9); exact absurd hz9 (by decide +kernel))
    | ((with_reducible rename RaisedSN _ _ _ _ _ _ _ => hR); refine her _ [] _ _ ⟨rfl, rfl⟩ (raised_sub hR (List.forall_mem_nil _)) (by assumption))
    | (refine hok _ [] _ _ ⟨rfl, _, _, rfl, rfl⟩ (Fr.keep (by assumption)) (List.forall_mem_nil _))
    | w_report
theorem sl4_0 : Txt.slice (PySem.Str.ofString "#0") none (some 2) = (PySem.Str.ofString "#0") := by decide +kernel
theorem sl4_1 : Txt.slice (PySem.Str.ofString "#0") none (some 1) = (PySem.Str.ofString "#") := by decide +kernel
theorem sl4_2 : Txt.slice (PySem.Str.ofString "#0") (some 1) none = (PySem.Str.ofString "0") := by decide +kernel
theorem sign4 {tt : Tok} :
    Ctr 10 107 [.str (PySem.Str.ofString "#0") tt] [] (fun _ v l => l = [] ∧ ∃ c t, none = some c ∧ v = .str c t) (fun l => l = [] ∧ none = (none : Option PySem.Str)) := by
  intro w mean mg mb d u gs base outer g s S hdp hup R hok her
  have hfill : PySem.Challenge.rw_xm0717_01.prog = PySem.Challenge.rw_xm0717_01.prog ∧ hd.heap_39 w.params = hd.heap_39 w.params := by k_fill; exact ⟨rfl, rfl⟩
  clear hfill
  have B := S.below
  have X := S.kin
  have T0 := S.top
  refine' enterC (binds := [(PySem.Str.ofString "word", .str (PySem.Str.ofString "#0") tt)]) S ?k6 ?k7 ?k8 ?k9 ?kB ?kD ?_ ?c2 ?c3 ?c4; (case k6 => k_is); (case k7 => k_is); (case k8 => k_room); (case k9 => exact BindsTo.of_eq rfl); (case kB => exact rfl); (case kD => decide +kernel); (case c2 => exact rfl); (case c3 => exact rfl); (case c4 => exact rfl)
  intro L' h₁ tk' cells' F N Y l1
  (try k_lt l1)
  k_cells Y
  (try simp only [List.cons_append, List.nil_append] at N)
  clear S
  show wpAny _ _ _ _ _ _
  k_fold
  repeat' (first | (simp only [sl4_0, sl4_1, sl4_2]) | ((with_reducible rename (List.isEmpty _ = true) => hz9); exact absurd hz9 (by decide +kernel)) | (k_unfold; (try dsimp only)) | (k_end; wrow_close) | (first | ((with_reducible show wpAny _ _ (leaving _ (Value.ref _)) _ _ _); (k_here; (refine' leave_onSN ?k1 ?k2 ?k3 ?k4 ?_; (case k3 => assumption); (case k1 => assumption); (case k4 => assumption); (case k2 => assumption); k_whole; intro h' R' _ U'; (try dsimp only at R' U' ⊢)))) | ((with_reducible show wpAny _ _ (leaving _ (Value.ref _)) _ _ _); (k_here; (refine' leave_newE ?k1 ?k0 ?k2 ?k3 ?kf ?kk ?_; (case kf => exact rfl); (case kk => exact rfl); (case k0 => assumption); (case k1 => assumption); (case k2 => assumption); (case k3 => k_asm); k_whole; intro h' R' U'; (try dsimp only at R' U' ⊢)))) | (k_here; (with_reducible show wpAny _ _ (call (Value.ref 44) [Value.str _ _]) _ _ _); (refine' sheet_call ?kB ?kF ?kX ?kT ?kc ?kk ?kr ?_; (case kc => exact rfl); (case kk => exact rfl); (case kF => k_asm); (case kB => k_asm); (case kX => k_asm); (case kT => k_asm); (case kr => (try dsimp only); omega)); (intro h' e' tk' x'); (refine' raisable_of ?kF ?kX x' ?_; (case kF => k_asm); (case kX => k_asm))) | (k_here; (with_reducible show wpAny _ _ (exec (Stmt.Raise (some (Expr.Call (Expr.Name (PySem.Str.ofString "SheetFault") _) _ _ _)) none _) _) _ _ _); refine Raise_sheetW rfl ?_) | ((with_reducible show wpAny _ _ (subscriptTail _ _ (Value.str _ _) (Value.int _ _)) _ _ _); (refine item_str (fitsSsize_of (N := 9223372036854775808) (by omega) (by omega) (Int.le_refl _)) (by omega) (by omega) ?_; intro _)) | (k_here; (with_reducible show wpAny _ _ (call (Value.builtin "len") [Value.str _ _]) _ _ _); refine P.len_str (by omega) ?_) | walk1) | (dsimp only; (first | ((with_reducible show wpAny _ _ (leaving _ (Value.ref _)) _ _ _); (k_here; (refine' leave_onSN ?k1 ?k2 ?k3 ?k4 ?_; (case k3 => assumption); (case k1 => assumption); (case k4 => assumption); (case k2 => assumption); k_whole; intro h' R' _ U'; (try dsimp only at R' U' ⊢)))) | ((with_reducible show wpAny _ _ (leaving _ (Value.ref _)) _ _ _); (k_here; (refine' leave_newE ?k1 ?k0 ?k2 ?k3 ?kf ?kk ?_; (case kf => exact rfl); (case kk => exact rfl); (case k0 => assumption); (case k1 => assumption); (case k2 => assumption); (case k3 => k_asm); k_whole; intro h' R' U'; (try dsimp only at R' U' ⊢)))) | (k_here; (with_reducible show wpAny _ _ (call (Value.ref 44) [Value.str _ _]) _ _ _); (refine' sheet_call ?kB ?kF ?kX ?kT ?kc ?kk ?kr ?_; (case kc => exact rfl); (case kk => exact rfl); (case kF => k_asm); (case kB => k_asm); (case kX => k_asm); (case kT => k_asm); (case kr => (try dsimp only); omega)); (intro h' e' tk' x'); (refine' raisable_of ?kF ?kX x' ?_; (case kF => k_asm); (case kX => k_asm))) | (k_here; (with_reducible show wpAny _ _ (exec (Stmt.Raise (some (Expr.Call (Expr.Name (PySem.Str.ofString "SheetFault") _) _ _ _)) none _) _) _ _ _); refine Raise_sheetW rfl ?_) | ((with_reducible show wpAny _ _ (subscriptTail _ _ (Value.str _ _) (Value.int _ _)) _ _ _); (refine item_str (fitsSsize_of (N := 9223372036854775808) (by omega) (by omega) (Int.le_refl _)) (by omega) (by omega) ?_; intro _)) | (k_here; (with_reducible show wpAny _ _ (call (Value.builtin "len") [Value.str _ _]) _ _ _); refine P.len_str (by omega) ?_) | walk1)) | (leave1; walk_say "STEP leave1"; try dsimp only) | fail "no step")
  all_goals first
    | ((with_reducible rename (List.isEmpty _ = true) => hz9); exact absurd hz9 (by decide +kernel))
    | ((with_reducible rename RaisedSN _ _ _ _ _ _ _ => hR); refine her _ [] _ _ ⟨rfl, rfl⟩ (raised_sub hR (List.forall_mem_nil _)) (by assumption))
    | (refine hok _ [] _ _ ⟨rfl, _, _, rfl, rfl⟩ (Fr.keep (by assumption)) (List.forall_mem_nil _))
    | w_report
theorem sl5_0 : Txt.slice (PySem.Str.ofString "") none (some 2) = (PySem.Str.ofString "") := by decide +kernel
theorem sl5_1 : Txt.slice (PySem.Str.ofString "") none (some 1) = (PySem.Str.ofString "") := by decide +kernel
theorem sl5_2 : Txt.slice (PySem.Str.ofString "") (some 1) none = (PySem.Str.ofString "") := by decide +kernel
theorem sign5 {tt : Tok} :
    Ctr 10 107 [.str (PySem.Str.ofString "") tt] [] (fun _ v l => l = [] ∧ ∃ c t, none = some c ∧ v = .str c t) (fun l => l = [] ∧ none = (none : Option PySem.Str)) := by
  intro w mean mg mb d u gs base outer g s S hdp hup R hok her
  have hfill : PySem.Challenge.rw_xm0717_01.prog = PySem.Challenge.rw_xm0717_01.prog ∧ hd.heap_39 w.params = hd.heap_39 w.params := by k_fill; exact ⟨rfl, rfl⟩
  clear hfill
  have B := S.below
  have X := S.kin
  have T0 := S.top
  refine' enterC (binds := [(PySem.Str.ofString "word", .str (PySem.Str.ofString "") tt)]) S ?k6 ?k7 ?k8 ?k9 ?kB ?kD ?_ ?c2 ?c3 ?c4; (case k6 => k_is); (case k7 => k_is); (case k8 => k_room); (case k9 => exact BindsTo.of_eq rfl); (case kB => exact rfl); (case kD => decide +kernel); (case c2 => exact rfl); (case c3 => exact rfl); (case c4 => exact rfl)
  intro L' h₁ tk' cells' F N Y l1
  (try k_lt l1)
  k_cells Y
  (try simp only [List.cons_append, List.nil_append] at N)
  clear S
  show wpAny _ _ _ _ _ _
  k_fold
  repeat' (first | (simp only [sl5_0, sl5_1, sl5_2]) | ((with_reducible rename (List.isEmpty _ = true) => hz9); exact absurd hz9 (by decide +kernel)) | (k_unfold; (try dsimp only)) | (k_end; wrow_close) | (first | ((with_reducible show wpAny _ _ (leaving _ (Value.ref _)) _ _ _); (k_here; (refine' leave_onSN ?k1 ?k2 ?k3 ?k4 ?_; (case k3 => assumption); (case k1 => assumption); (case k4 => assumption); (case k2 => assumption); k_whole; intro h' R' _ U'; (try dsimp only at R' U' ⊢)))) | ((with_reducible show wpAny _ _ (leaving _ (Value.ref _)) _ _ _); (k_here; (refine' leave_newE ?k1 ?k0 ?k2 ?k3 ?kf ?kk ?_; (case kf => exact rfl); (case kk => exact rfl); (case k0 => assumption); (case k1 => assumption); (case k2 => assumption); (case k3 => k_asm); k_whole; intro h' R' U'; (try dsimp only at R' U' ⊢)))) | (k_here; (with_reducible show wpAny _ _ (call (Value.ref 44) [Value.str _ _]) _ _ _); (refine' sheet_call ?kB ?kF ?kX ?kT ?kc ?kk ?kr ?_; (case kc => exact rfl); (case kk => exact rfl); (case kF => k_asm); (case kB => k_asm); (case kX => k_asm); (case kT => k_asm); (case kr => (try dsimp only); omega)); (intro h' e' tk' x'); (refine' raisable_of ?kF ?kX x' ?_; (case kF => k_asm); (case kX => k_asm))) | (k_here; (with_reducible show wpAny _ _ (exec (Stmt.Raise (some (Expr.Call (Expr.Name (PySem.Str.ofString "SheetFault") _) _ _ _)) none _) _) _ _ _); refine Raise_sheetW rfl ?_) | ((with_reducible show wpAny _ _ (subscriptTail _ _ (Value.str _ _) (Value.int _ _)) _ _ _); (refine item_str (fitsSsize_of (N := 9223372036854775808) (by omega) (by omega) (Int.le_refl _)) (by omega) (by omega) ?_; intro _)) | (k_here; (with_reducible show wpAny _ _ (call (Value.builtin "len") [Value.str _ _]) _ _ _); refine P.len_str (by omega) ?_) | walk1) | (dsimp only; (first | ((with_reducible show wpAny _ _ (leaving _ (Value.ref _)) _ _ _); (k_here; (refine' leave_onSN ?k1 ?k2 ?k3 ?k4 ?_; (case k3 => assumption); (case k1 => assumption); (case k4 => assumption); (case k2 => assumption); k_whole; intro h' R' _ U'; (try dsimp only at R' U' ⊢)))) | ((with_reducible show wpAny _ _ (leaving _ (Value.ref _)) _ _ _); (k_here; (refine' leave_newE ?k1 ?k0 ?k2 ?k3 ?kf ?kk ?_; (case kf => exact rfl); (case kk => exact rfl); (case k0 => assumption); (case k1 => assumption); (case k2 => assumption); (case k3 => k_asm); k_whole; intro h' R' U'; (try dsimp only at R' U' ⊢)))) | (k_here; (with_reducible show wpAny _ _ (call (Value.ref 44) [Value.str _ _]) _ _ _); (refine' sheet_call ?kB ?kF ?kX ?kT ?kc ?kk ?kr ?_; (case kc => exact rfl); (case kk => exact rfl); (case kF => k_asm); (case kB => k_asm); (case kX => k_asm); (case kT => k_asm); (case kr => (try dsimp only); omega)); (intro h' e' tk' x'); (refine' raisable_of ?kF ?kX x' ?_; (case kF => k_asm); (case kX => k_asm))) | (k_here; (with_reducible show wpAny _ _ (exec (Stmt.Raise (some (Expr.Call (Expr.Name (PySem.Str.ofString "SheetFault") _) _ _ _)) none _) _) _ _ _); refine Raise_sheetW rfl ?_) | ((with_reducible show wpAny _ _ (subscriptTail _ _ (Value.str _ _) (Value.int _ _)) _ _ _); (refine item_str (fitsSsize_of (N := 9223372036854775808) (by omega) (by omega) (Int.le_refl _)) (by omega) (by omega) ?_; intro _)) | (k_here; (with_reducible show wpAny _ _ (call (Value.builtin "len") [Value.str _ _]) _ _ _); refine P.len_str (by omega) ?_) | walk1)) | (leave1; walk_say "STEP leave1"; try dsimp only) | fail "no step")
  all_goals first
    | ((with_reducible rename (List.isEmpty _ = true) => hz9); exact absurd hz9 (by decide +kernel))
    | ((with_reducible rename RaisedSN _ _ _ _ _ _ _ => hR); refine her _ [] _ _ ⟨rfl, rfl⟩ (raised_sub hR (List.forall_mem_nil _)) (by assumption))
    | (refine hok _ [] _ _ ⟨rfl, _, _, rfl, rfl⟩ (Fr.keep (by assumption)) (List.forall_mem_nil _))
    | w_report
theorem sl6_0 : Txt.slice (PySem.Str.ofString " ") none (some 2) = (PySem.Str.ofString " ") := by decide +kernel
theorem sl6_1 : Txt.slice (PySem.Str.ofString " ") none (some 1) = (PySem.Str.ofString " ") := by decide +kernel
theorem sl6_2 : Txt.slice (PySem.Str.ofString " ") (some 1) none = (PySem.Str.ofString "") := by decide +kernel
theorem sign6 {tt : Tok} :
    Ctr 10 107 [.str (PySem.Str.ofString " ") tt] [] (fun _ v l => l = [] ∧ ∃ c t, none = some c ∧ v = .str c t) (fun l => l = [] ∧ none = (none : Option PySem.Str)) := by
  intro w mean mg mb d u gs base outer g s S hdp hup R hok her
  have hfill : PySem.Challenge.rw_xm0717_01.prog = PySem.Challenge.rw_xm0717_01.prog ∧ hd.heap_39 w.params = hd.heap_39 w.params := by k_fill; exact ⟨rfl, rfl⟩
  clear hfill
  have B := S.below
  have X := S.kin
  have T0 := S.top
  refine' enterC (binds := [(PySem.Str.ofString "word", .str (PySem.Str.ofString " ") tt)]) S ?k6 ?k7 ?k8 ?k9 ?kB ?kD ?_ ?c2 ?c3 ?c4; (case k6 => k_is); (case k7 => k_is); (case k8 => k_room); (case k9 => exact BindsTo.of_eq rfl); (case kB => exact rfl); (case kD => decide +kernel); (case c2 => exact rfl); (case c3 => exact rfl); (case c4 => exact rfl)
  intro L' h₁ tk' cells' F N Y l1
  (try k_lt l1)
  k_cells Y
  (try simp only [List.cons_append, List.nil_append] at N)
  clear S
  show wpAny _ _ _ _ _ _
  k_fold
  repeat' (first | (simp only [sl6_0, sl6_1, sl6_2]) | ((with_reducible rename (List.isEmpty _ = true) => hz9); exact absurd hz9 (by decide +kernel)) | (k_unfold; (try dsimp only)) | (k_end; wrow_close) | (first | ((with_reducible show wpAny _ _ (leaving _ (Value.ref _)) _ _ _); (k_here; (refine' leave_onSN ?k1 ?k2 ?k3 ?k4 ?_; (case k3 => assumption); (case k1 => assumption); (case k4 => assumption); (case k2 => assumption); k_whole; intro h' R' _ U'; (try dsimp only at R' U' ⊢)))) | ((with_reducible show wpAny _ _ (leaving _ (Value.ref _)) _ _ _); (k_here; (refine' leave_newE ?k1 ?k0 ?k2 ?k3 ?kf ?kk ?_; (case kf => exact rfl); (case kk => exact rfl); (case k0 => assumption); (case k1 => assumption); (case k2 => assumption); (case k3 => k_asm); k_whole; intro h' R' U'; (try dsimp only at R' U' ⊢)))) | (k_here; (with_reducible show wpAny _ _ (call (Value.ref 44) [Value.str _ _]) _ _ _); (refine' sheet_call ?kB ?kF ?kX ?kT ?kc ?kk ?kr ?_; (case kc => exact rfl); (case kk => exact rfl); (case kF => k_asm); (case kB => k_asm); (case kX => k_asm); (case kT => k_asm); (case kr => (try dsimp only); omega)); (intro h' e' tk' x'); (refine' raisable_of ?kF ?kX x' ?_; (case kF => k_asm); (case kX => k_asm))) | (k_here; (with_reducible show wpAny _ _ (exec (Stmt.Raise (some (Expr.Call (Expr.Name (PySem.Str.ofString "SheetFault") _) _ _ _)) none _) _) _ _ _); refine Raise_sheetW rfl ?_) | ((with_reducible show wpAny _ _ (subscriptTail _ _ (Value.str _ _) (Value.int _ _)) _ _ _); (refine item_str (fitsSsize_of (N := 9223372036854775808) (by omega) (by omega) (Int.le_refl _)) (by omega) (by omega) ?_; intro _)) | (k_here; (with_reducible show wpAny _ _ (call (Value.builtin "len") [Value.str _ _]) _ _ _); refine P.len_str (by omega) ?_) | walk1) | (dsimp only; (first | ((with_reducible show wpAny _ _ (leaving _ (Value.ref _)) _ _ _); (k_here; (refine' leave_onSN ?k1 ?k2 ?k3 ?k4 ?_; (case k3 => assumption); (case k1 => assumption); (case k4 => assumption); (case k2 => assumption); k_whole; intro h' R' _ U'; (try dsimp only at R' U' ⊢)))) | ((with_reducible show wpAny _ _ (leaving _ (Value.ref _)) _ _ _); (k_here; (refine' leave_newE ?k1 ?k0 ?k2 ?k3 ?kf ?kk ?_; (case kf => exact rfl); (case kk => exact rfl); (case k0 => assumption); (case k1 => assumption); (case k2 => assumption); (case k3 => k_asm); k_whole; intro h' R' U'; (try dsimp only at R' U' ⊢)))) | (k_here; (with_reducible show wpAny _ _ (call (Value.ref 44) [Value.str _ _]) _ _ _); (refine' sheet_call ?kB ?kF ?kX ?kT ?kc ?kk ?kr ?_; (case kc => exact rfl); (case kk => exact rfl); (case kF => k_asm); (case kB => k_asm); (case kX => k_asm); (case kT => k_asm); (case kr => (try dsimp only); omega)); (intro h' e' tk' x'); (refine' raisable_of ?kF ?kX x' ?_; (case kF => k_asm); (case kX => k_asm))) | (k_here; (with_reducible show wpAny _ _ (exec (Stmt.Raise (some (Expr.Call (Expr.Name (PySem.Str.ofString "SheetFault") _) _ _ _)) none _) _) _ _ _); refine Raise_sheetW rfl ?_) | ((with_reducible show wpAny _ _ (subscriptTail _ _ (Value.str _ _) (Value.int _ _)) _ _ _); (refine item_str (fitsSsize_of (N := 9223372036854775808) (by omega) (by omega) (Int.le_refl _)) (by omega) (by omega) ?_; intro _)) | (k_here; (with_reducible show wpAny _ _ (call (Value.builtin "len") [Value.str _ _]) _ _ _); refine P.len_str (by omega) ?_) | walk1)) | (leave1; walk_say "STEP leave1"; try dsimp only) | fail "no step")
  all_goals first
    | ((with_reducible rename (List.isEmpty _ = true) => hz9); exact absurd hz9 (by decide +kernel))
    | ((with_reducible rename RaisedSN _ _ _ _ _ _ _ => hR); refine her _ [] _ _ ⟨rfl, rfl⟩ (raised_sub hR (List.forall_mem_nil _)) (by assumption))
    | (refine hok _ [] _ _ ⟨rfl, _, _, rfl, rfl⟩ (Fr.keep (by assumption)) (List.forall_mem_nil _))
    | w_report
/-- the words that the law brings behind an ampersand, and what they stand for -/
inductive SignIs : PySem.Str → Option PySem.Str → Prop
  | w0 : SignIs (PySem.Str.ofString "lt") (some (PySem.Str.ofString "<"))
  | w1 : SignIs (PySem.Str.ofString "#65") (some (PySem.Str.ofString "A"))
  | w2 : SignIs (PySem.Str.ofString "#x3E") (some (PySem.Str.ofString ">"))
  | w3 : SignIs (PySem.Str.ofString "x") none
  | w4 : SignIs (PySem.Str.ofString "#0") none
  | w5 : SignIs (PySem.Str.ofString "") none
  | w6 : SignIs (PySem.Str.ofString " ") none
theorem sign_ctr {W : PySem.Str} {r : Option PySem.Str} {tt : Tok} (h : SignIs W r) : Ctr 10 107 [.str W tt] [] (fun _ v l => l = [] ∧ ∃ c t, r = some c ∧ v = .str c t) (fun l => l = [] ∧ r = none) := by
  cases h
  · exact sign0
  · exact sign1
  · exact sign2
  · exact sign3
  · exact sign4
  · exact sign5
  · exact sign6
end

section
open PySem PySem.W PySem.Calls PyProof.Rows PySem.Spec
set_option maxRecDepth 100000
set_option maxHeartbeats 4000000

theorem fill_unesc (w : World) : PySem.Challenge.rw_xm0717_01.prog = PySem.Challenge.rw_xm0717_01.prog ∧ hd.heap_39 w.params = hd.heap_39 w.params := by k_fill; exact ⟨rfl, rfl⟩



theorem signIs_of {w : List Nat} {sg : Option Nat} (h : signWord w = some sg) : SignIs ⟨w.toArray⟩ (sg.map fun c => ⟨#[c]⟩) := by
  have e0 : (⟨[108, 116].toArray⟩ : PySem.Str) = PySem.Str.ofString "lt" ∧ (⟨#[60]⟩ : PySem.Str) = PySem.Str.ofString "<" := by decide +kernel
  have e1 : (⟨[35, 54, 53].toArray⟩ : PySem.Str) = PySem.Str.ofString "#65" ∧ (⟨#[65]⟩ : PySem.Str) = PySem.Str.ofString "A" := by decide +kernel
  have e2 : (⟨[35, 120, 51, 69].toArray⟩ : PySem.Str) = PySem.Str.ofString "#x3E" ∧ (⟨#[62]⟩ : PySem.Str) = PySem.Str.ofString ">" := by decide +kernel
  have e3 : (⟨[120].toArray⟩ : PySem.Str) = PySem.Str.ofString "x" := by decide +kernel
  have e4 : (⟨[35, 48].toArray⟩ : PySem.Str) = PySem.Str.ofString "#0" := by decide +kernel
  have e5 : (⟨([] : List Nat).toArray⟩ : PySem.Str) = PySem.Str.ofString "" := by decide +kernel
  have e6 : (⟨[32].toArray⟩ : PySem.Str) = PySem.Str.ofString " " := by decide +kernel
  unfold signWord at h
  split at h <;> first | (cases h; done) | (cases h; simp only [Option.map_some, Option.map_none])
  · rw [e0.1, e0.2]; exact .w0
  · rw [e1.1, e1.2]; exact .w1
  · rw [e2.1, e2.2]; exact .w2
  · rw [e3]; exact .w3
  · rw [e4]; exact .w4
  · rw [e5]; exact .w5
  · rw [e6]; exact .w6
theorem unescaped_ctr {T : PySem.Str} {tT : Tok} {n : Nat} {r : Option (List Nat)} (hT0 : T.length ≤ 100000) (hr : unescF n T.cps.toList = some r) :
    Ctr 14 114 [.str T tT] [] (fun _ v l => l = [] ∧ ∃ m t', r = some m ∧ v = .str ⟨m.toArray⟩ t') (fun l => l = [] ∧ r = none) := by
  intro w mean mg mb d u gs base outer g s S hdp hup R hok her
  have hfill : PySem.Challenge.rw_xm0717_01.prog = PySem.Challenge.rw_xm0717_01.prog ∧ hd.heap_39 w.params = hd.heap_39 w.params := by k_fill; exact ⟨rfl, rfl⟩
  clear hfill
  have B := S.below
  have X := S.kin
  have T0 := S.top
  refine' enter (binds := [(PySem.Str.ofString "text", .str T tT)]) S ?k6 ?k7 ?k8 ?k9 ?kB ?_ ?c2 ?c3 ?c4 ?c5; (case k6 => k_is); (case k7 => k_is); (case k8 => k_room); (case k9 => exact BindsTo.of_eq rfl); (case c5 => decide); (case kB => exact locs rfl); (case c2 => exact rfl); (case c3 => exact rfl); (case c4 => exact rfl)
  intro L' h₁ F N
  clear S
  show wpAny _ _ _ _ _ _
  k_fold
  repeat' (fail_if_success (with_reducible show wpAny _ _ (exec (Stmt.While _ _ _ _) _) _ _ _)); (first | (k_unfold; (try dsimp only)) | (k_end; wrow_close) | (first | (k_here; (with_reducible show wpAny _ _ (call (Value.builtin _) [Value.ref _, _]) _ _ _); k_dflt (refine' append_K ?k1 ?k2 ?k3 ?_ ?z; (case k1 => k_asm); (case k2 => k_asm); (case k3 => k_upd); (case z => ((try simp only [Array.size_push]); (show _ ≤ 16777216); omega))); intro h' F' N'; (try k_sweep)) | ((with_reducible show wpAny _ _ (leaving _ (Value.ref _)) _ _ _); (k_here; (refine' leave_onSN ?k1 ?k2 ?k3 ?k4 ?_; (case k3 => assumption); (case k1 => assumption); (case k4 => assumption); (case k2 => assumption); k_whole; intro h' R' _ U'; (try dsimp only at R' U' ⊢)))) | ((with_reducible show wpAny _ _ (leaving _ (Value.ref _)) _ _ _); (k_here; (refine' leave_newE ?k1 ?k0 ?k2 ?k3 ?kf ?kk ?_; (case kf => exact rfl); (case kk => exact rfl); (case k0 => assumption); (case k1 => assumption); (case k2 => assumption); (case k3 => k_asm); k_whole; intro h' R' U'; (try dsimp only at R' U' ⊢)))) | (k_here; (with_reducible show wpAny _ _ (call (Value.ref 44) [Value.str _ _]) _ _ _); (refine' sheet_call ?kB ?kF ?kX ?kT ?kc ?kk ?kr ?_; (case kc => exact rfl); (case kk => exact rfl); (case kF => k_asm); (case kB => k_asm); (case kX => k_asm); (case kT => k_asm); (case kr => (try dsimp only); omega)); (intro h' e' tk' x'); (refine' raisable_of ?kF ?kX x' ?_; (case kF => k_asm); (case kX => k_asm))) | (k_here; (with_reducible show wpAny _ _ (exec (Stmt.Raise (some (Expr.Call (Expr.Name (PySem.Str.ofString "SheetFault") _) _ _ _)) none _) _) _ _ _); refine Raise_sheetW rfl ?_) | ((with_reducible show wpAny _ _ (subscriptTail _ _ (Value.str _ _) (Value.int _ _)) _ _ _); (refine item_str (fitsSsize_of (N := 9223372036854775808) (by omega) (by omega) (Int.le_refl _)) (by omega) (by omega) ?_; intro _)) | (k_here; (with_reducible show wpAny _ _ (call (Value.builtin "len") [Value.str _ _]) _ _ _); refine P.len_str (by omega) ?_) | walk1) | (dsimp only; (first | (k_here; (with_reducible show wpAny _ _ (call (Value.builtin _) [Value.ref _, _]) _ _ _); k_dflt (refine' append_K ?k1 ?k2 ?k3 ?_ ?z; (case k1 => k_asm); (case k2 => k_asm); (case k3 => k_upd); (case z => ((try simp only [Array.size_push]); (show _ ≤ 16777216); omega))); intro h' F' N'; (try k_sweep)) | ((with_reducible show wpAny _ _ (leaving _ (Value.ref _)) _ _ _); (k_here; (refine' leave_onSN ?k1 ?k2 ?k3 ?k4 ?_; (case k3 => assumption); (case k1 => assumption); (case k4 => assumption); (case k2 => assumption); k_whole; intro h' R' _ U'; (try dsimp only at R' U' ⊢)))) | ((with_reducible show wpAny _ _ (leaving _ (Value.ref _)) _ _ _); (k_here; (refine' leave_newE ?k1 ?k0 ?k2 ?k3 ?kf ?kk ?_; (case kf => exact rfl); (case kk => exact rfl); (case k0 => assumption); (case k1 => assumption); (case k2 => assumption); (case k3 => k_asm); k_whole; intro h' R' U'; (try dsimp only at R' U' ⊢)))) | (k_here; (with_reducible show wpAny _ _ (call (Value.ref 44) [Value.str _ _]) _ _ _); (refine' sheet_call ?kB ?kF ?kX ?kT ?kc ?kk ?kr ?_; (case kc => exact rfl); (case kk => exact rfl); (case kF => k_asm); (case kB => k_asm); (case kX => k_asm); (case kT => k_asm); (case kr => (try dsimp only); omega)); (intro h' e' tk' x'); (refine' raisable_of ?kF ?kX x' ?_; (case kF => k_asm); (case kX => k_asm))) | (k_here; (with_reducible show wpAny _ _ (exec (Stmt.Raise (some (Expr.Call (Expr.Name (PySem.Str.ofString "SheetFault") _) _ _ _)) none _) _) _ _ _); refine Raise_sheetW rfl ?_) | ((with_reducible show wpAny _ _ (subscriptTail _ _ (Value.str _ _) (Value.int _ _)) _ _ _); (refine item_str (fitsSsize_of (N := 9223372036854775808) (by omega) (by omega) (Int.le_refl _)) (by omega) (by omega) ?_; intro _)) | (k_here; (with_reducible show wpAny _ _ (call (Value.builtin "len") [Value.str _ _]) _ _ _); refine P.len_str (by omega) ?_) | walk1)) | fail "no step")
  (with_reducible rename Fr _ _ _ _ => F1)
  (with_reducible rename News _ _ _ _ => N1)
  obtain ⟨D, ta, F1, N1⟩ := (⟨_, _, F1, N1⟩ : ∃ D ta, Fr g L' _ (fun y => if y = PySem.Str.ofString "at" then some (Value.int 0 ta) else if y = PySem.Str.ofString "found" then some (Value.ref D) else List.lookup y [(PySem.Str.ofString "text", Value.str T tT)].reverse) ∧ News g L' _ [(D, W.listOf #[] 0)])
  refine While_inv (n₀ := (T.length - (0 : Int)).toNat) (fun k m₁ news₁ => ∃ en mk i ti its nn ys n' r', m₁ = (fun y => if y = PySem.Str.ofString "end" then en else if y = PySem.Str.ofString "mark" then mk else if y = PySem.Str.ofString "at" then some (Value.int i ti) else if y = PySem.Str.ofString "found" then some (Value.ref D) else List.lookup y [(PySem.Str.ofString "text", Value.str T tT)].reverse) ∧ news₁ = [(D, W.listOf its nn)] ∧ StrsAre its.toList ys ∧ 0 ≤ i ∧ i ≤ T.length ∧ (ys.map PySem.Str.length).sum ≤ i.toNat ∧ ys.length ≤ i.toNat ∧ unescF n' (T.cps.toList.drop i.toNat) = some r' ∧ r = r'.map (fun m => catS ys ++ m) ∧ k = (T.length - i).toNat) F1 N1 ⟨none, none, 0, ta, #[], 0, [], n, r, ?m0, rfl, .nil, Int.le_refl _, by omega, Nat.le_refl _, Nat.le_refl _, hr, by cases r <;> rfl, rfl⟩ ?_
  case m0 =>
    funext y
    by_cases a : y = PySem.Str.ofString "end"
    · subst a; rfl
    · by_cases b : y = PySem.Str.ofString "mark"
      · subst b; rfl
      · simp only [a, b, if_false]
  intro k m₁ news₁ h₂ tk₂ F₂ N₂ J
  obtain ⟨en, mk, i, ti, its, nn, ys, n', r', rfl, rfl, hS, hi0, hi1, hsum, hlen, hu, hrr, hk⟩ := J
  clear F1 N1
  have hits : its.size = ys.length := by
    have := strs_len hS
    simpa using this
  repeat' (fail_if_success (with_reducible show wpAny _ _ (call (Value.ref 107) _ _) _ _ _)); (first | (k_unfold; (try dsimp only)) | (k_end; wrow_close) | (first | (k_here; (with_reducible show wpAny _ _ (call (Value.builtin _) [Value.ref _, _]) _ _ _); k_dflt (refine' append_K ?k1 ?k2 ?k3 ?_ ?z; (case k1 => k_asm); (case k2 => k_asm); (case k3 => k_upd); (case z => ((try simp only [Array.size_push]); (show _ ≤ 16777216); omega))); intro h' F' N'; (try k_sweep)) | ((with_reducible show wpAny _ _ (leaving _ (Value.ref _)) _ _ _); (k_here; (refine' leave_onSN ?k1 ?k2 ?k3 ?k4 ?_; (case k3 => assumption); (case k1 => assumption); (case k4 => assumption); (case k2 => assumption); k_whole; intro h' R' _ U'; (try dsimp only at R' U' ⊢)))) | ((with_reducible show wpAny _ _ (leaving _ (Value.ref _)) _ _ _); (k_here; (refine' leave_newE ?k1 ?k0 ?k2 ?k3 ?kf ?kk ?_; (case kf => exact rfl); (case kk => exact rfl); (case k0 => assumption); (case k1 => assumption); (case k2 => assumption); (case k3 => k_asm); k_whole; intro h' R' U'; (try dsimp only at R' U' ⊢)))) | (k_here; (with_reducible show wpAny _ _ (call (Value.ref 44) [Value.str _ _]) _ _ _); (refine' sheet_call ?kB ?kF ?kX ?kT ?kc ?kk ?kr ?_; (case kc => exact rfl); (case kk => exact rfl); (case kF => k_asm); (case kB => k_asm); (case kX => k_asm); (case kT => k_asm); (case kr => (try dsimp only); omega)); (intro h' e' tk' x'); (refine' raisable_of ?kF ?kX x' ?_; (case kF => k_asm); (case kX => k_asm))) | (k_here; (with_reducible show wpAny _ _ (exec (Stmt.Raise (some (Expr.Call (Expr.Name (PySem.Str.ofString "SheetFault") _) _ _ _)) none _) _) _ _ _); refine Raise_sheetW rfl ?_) | ((with_reducible show wpAny _ _ (subscriptTail _ _ (Value.str _ _) (Value.int _ _)) _ _ _); (refine item_str (fitsSsize_of (N := 9223372036854775808) (by omega) (by omega) (Int.le_refl _)) (by omega) (by omega) ?_; intro _)) | (k_here; (with_reducible show wpAny _ _ (call (Value.builtin "len") [Value.str _ _]) _ _ _); refine P.len_str (by omega) ?_) | walk1) | (dsimp only; (first | (k_here; (with_reducible show wpAny _ _ (call (Value.builtin _) [Value.ref _, _]) _ _ _); k_dflt (refine' append_K ?k1 ?k2 ?k3 ?_ ?z; (case k1 => k_asm); (case k2 => k_asm); (case k3 => k_upd); (case z => ((try simp only [Array.size_push]); (show _ ≤ 16777216); omega))); intro h' F' N'; (try k_sweep)) | ((with_reducible show wpAny _ _ (leaving _ (Value.ref _)) _ _ _); (k_here; (refine' leave_onSN ?k1 ?k2 ?k3 ?k4 ?_; (case k3 => assumption); (case k1 => assumption); (case k4 => assumption); (case k2 => assumption); k_whole; intro h' R' _ U'; (try dsimp only at R' U' ⊢)))) | ((with_reducible show wpAny _ _ (leaving _ (Value.ref _)) _ _ _); (k_here; (refine' leave_newE ?k1 ?k0 ?k2 ?k3 ?kf ?kk ?_; (case kf => exact rfl); (case kk => exact rfl); (case k0 => assumption); (case k1 => assumption); (case k2 => assumption); (case k3 => k_asm); k_whole; intro h' R' U'; (try dsimp only at R' U' ⊢)))) | (k_here; (with_reducible show wpAny _ _ (call (Value.ref 44) [Value.str _ _]) _ _ _); (refine' sheet_call ?kB ?kF ?kX ?kT ?kc ?kk ?kr ?_; (case kc => exact rfl); (case kk => exact rfl); (case kF => k_asm); (case kB => k_asm); (case kX => k_asm); (case kT => k_asm); (case kr => (try dsimp only); omega)); (intro h' e' tk' x'); (refine' raisable_of ?kF ?kX x' ?_; (case kF => k_asm); (case kX => k_asm))) | (k_here; (with_reducible show wpAny _ _ (exec (Stmt.Raise (some (Expr.Call (Expr.Name (PySem.Str.ofString "SheetFault") _) _ _ _)) none _) _) _ _ _); refine Raise_sheetW rfl ?_) | ((with_reducible show wpAny _ _ (subscriptTail _ _ (Value.str _ _) (Value.int _ _)) _ _ _); (refine item_str (fitsSsize_of (N := 9223372036854775808) (by omega) (by omega) (Int.le_refl _)) (by omega) (by omega) ?_; intro _)) | (k_here; (with_reducible show wpAny _ _ (call (Value.builtin "len") [Value.str _ _]) _ _ _); refine P.len_str (by omega) ?_) | walk1)) | (leave1; walk_say "STEP leave1"; try dsimp only) | fail "no step")
  all_goals first
    | ((with_reducible show WhileStep _ _ _ _ _ _ _)
       (with_reducible rename i < (T.length : Int) => hlt)
       (with_reducible rename Txt.find3 T (PySem.Str.ofString "&") i < 0 => hf)
       obtain ⟨n3, r3, u1, u2⟩ := end_plain hi0 hlt hu hf hrr
       refine' WhileStep.intro (by assumption) (by assumption) (n' := (T.length - (T.length : Int)).toNat) (by omega) ⟨_, _, (T.length : Int), _, _, _, ys ++ [Txt.slice T (some i) (some (T.length : Int))], n3, r3, ?m0, rfl, strs_push hS, by omega, Int.le_refl _, ?sm, ?ln, u1, u2, rfl⟩
       case m0 => (funext y; by_cases a : y = PySem.Str.ofString "end"; (subst a; rfl); by_cases b : y = PySem.Str.ofString "mark"; (subst b; rfl); by_cases c : y = PySem.Str.ofString "at"; (subst c; rfl); simp only [a, b, c, if_false])
       case sm =>
         have := slice_len hi0 hi1 (Int.le_refl _)
         simp only [List.map_append, List.sum_append, List.map_cons, List.map_nil, List.sum_cons, List.sum_nil]
         omega
       case ln => (simp only [List.length_append, List.length_cons, List.length_nil]; omega))
    | ((with_reducible rename RaisedSN _ _ _ _ _ _ _ => hR)
       refine her _ [] _ _ ⟨rfl, end_open hi0 (by assumption) hu (by assumption) (by assumption) hrr⟩ (raised_sub hR (List.forall_mem_nil _)) (by assumption))
    | ((with_reducible show wpAny _ _ (call (Value.ref 107) _ _) _ _ _)
       (with_reducible rename i < (T.length : Int) => hlt)
       (with_reducible rename ¬ (Txt.find3 T (PySem.Str.ofString "&") i < 0) => hf)
       (with_reducible rename ¬ (Txt.find3 T (PySem.Str.ofString ";") _ < 0) => hg)
       obtain ⟨q1, q2, q3, w9, sg, hw, hsg, hno, hyes⟩ := end_word hi0 hlt hu hf hg hrr
       have hS9 := signIs_of hsg
       rw [← hw] at hS9
       refine' call_ctr0 (sign_ctr hS9 _) ?kF ?kB ?kX ?kN ?kT ?kf ?kk ?kd ?ku ?ok9 ?er9
       case kf => exact rfl
       case kk => exact rfl
       case kF => k_asm
       case kB => k_asm
       case kX => k_asm
       case kN => k_asm
       case kT => k_asm
       case kd => omega
       case ku => omega
       case ok9 =>
         intro v9 small9 h9 tk9 ok9 lt9 F9 N9
         obtain ⟨rfl, c9, t9, hc9, rfl⟩ := ok9
         cases sg with
         | none => cases hc9
         | some c =>
           cases hc9
           obtain ⟨n3, r3, u1, u2⟩ := hyes c rfl
           simp only [List.nil_append] at N9
           repeat' (first | (k_unfold; (try dsimp only)) | (k_end; wrow_close) | (first | (k_here; (with_reducible show wpAny _ _ (call (Value.builtin _) [Value.ref _, _]) _ _ _); k_dflt (refine' append_K ?k1 ?k2 ?k3 ?_ ?z; (case k1 => k_asm); (case k2 => k_asm); (case k3 => k_upd); (case z => ((try simp only [Array.size_push]); (show _ ≤ 16777216); omega))); intro h' F' N'; (try k_sweep)) | ((with_reducible show wpAny _ _ (leaving _ (Value.ref _)) _ _ _); (k_here; (refine' leave_onSN ?k1 ?k2 ?k3 ?k4 ?_; (case k3 => assumption); (case k1 => assumption); (case k4 => assumption); (case k2 => assumption); k_whole; intro h' R' _ U'; (try dsimp only at R' U' ⊢)))) | ((with_reducible show wpAny _ _ (leaving _ (Value.ref _)) _ _ _); (k_here; (refine' leave_newE ?k1 ?k0 ?k2 ?k3 ?kf ?kk ?_; (case kf => exact rfl); (case kk => exact rfl); (case k0 => assumption); (case k1 => assumption); (case k2 => assumption); (case k3 => k_asm); k_whole; intro h' R' U'; (try dsimp only at R' U' ⊢)))) | (k_here; (with_reducible show wpAny _ _ (call (Value.ref 44) [Value.str _ _]) _ _ _); (refine' sheet_call ?kB ?kF ?kX ?kT ?kc ?kk ?kr ?_; (case kc => exact rfl); (case kk => exact rfl); (case kF => k_asm); (case kB => k_asm); (case kX => k_asm); (case kT => k_asm); (case kr => (try dsimp only); omega)); (intro h' e' tk' x'); (refine' raisable_of ?kF ?kX x' ?_; (case kF => k_asm); (case kX => k_asm))) | (k_here; (with_reducible show wpAny _ _ (exec (Stmt.Raise (some (Expr.Call (Expr.Name (PySem.Str.ofString "SheetFault") _) _ _ _)) none _) _) _ _ _); refine Raise_sheetW rfl ?_) | ((with_reducible show wpAny _ _ (subscriptTail _ _ (Value.str _ _) (Value.int _ _)) _ _ _); (refine item_str (fitsSsize_of (N := 9223372036854775808) (by omega) (by omega) (Int.le_refl _)) (by omega) (by omega) ?_; intro _)) | (k_here; (with_reducible show wpAny _ _ (call (Value.builtin "len") [Value.str _ _]) _ _ _); refine P.len_str (by omega) ?_) | walk1) | (dsimp only; (first | (k_here; (with_reducible show wpAny _ _ (call (Value.builtin _) [Value.ref _, _]) _ _ _); k_dflt (refine' append_K ?k1 ?k2 ?k3 ?_ ?z; (case k1 => k_asm); (case k2 => k_asm); (case k3 => k_upd); (case z => ((try simp only [Array.size_push]); (show _ ≤ 16777216); omega))); intro h' F' N'; (try k_sweep)) | ((with_reducible show wpAny _ _ (leaving _ (Value.ref _)) _ _ _); (k_here; (refine' leave_onSN ?k1 ?k2 ?k3 ?k4 ?_; (case k3 => assumption); (case k1 => assumption); (case k4 => assumption); (case k2 => assumption); k_whole; intro h' R' _ U'; (try dsimp only at R' U' ⊢)))) | ((with_reducible show wpAny _ _ (leaving _ (Value.ref _)) _ _ _); (k_here; (refine' leave_newE ?k1 ?k0 ?k2 ?k3 ?kf ?kk ?_; (case kf => exact rfl); (case kk => exact rfl); (case k0 => assumption); (case k1 => assumption); (case k2 => assumption); (case k3 => k_asm); k_whole; intro h' R' U'; (try dsimp only at R' U' ⊢)))) | (k_here; (with_reducible show wpAny _ _ (call (Value.ref 44) [Value.str _ _]) _ _ _); (refine' sheet_call ?kB ?kF ?kX ?kT ?kc ?kk ?kr ?_; (case kc => exact rfl); (case kk => exact rfl); (case kF => k_asm); (case kB => k_asm); (case kX => k_asm); (case kT => k_asm); (case kr => (try dsimp only); omega)); (intro h' e' tk' x'); (refine' raisable_of ?kF ?kX x' ?_; (case kF => k_asm); (case kX => k_asm))) | (k_here; (with_reducible show wpAny _ _ (exec (Stmt.Raise (some (Expr.Call (Expr.Name (PySem.Str.ofString "SheetFault") _) _ _ _)) none _) _) _ _ _); refine Raise_sheetW rfl ?_) | ((with_reducible show wpAny _ _ (subscriptTail _ _ (Value.str _ _) (Value.int _ _)) _ _ _); (refine item_str (fitsSsize_of (N := 9223372036854775808) (by omega) (by omega) (Int.le_refl _)) (by omega) (by omega) ?_; intro _)) | (k_here; (with_reducible show wpAny _ _ (call (Value.builtin "len") [Value.str _ _]) _ _ _); refine P.len_str (by omega) ?_) | walk1)) | (leave1; walk_say "STEP leave1"; try dsimp only) | fail "no step")
           refine' WhileStep.intro (by assumption) (by assumption) (n' := (T.length - (Txt.find3 T (PySem.Str.ofString ";") (Txt.find3 T (PySem.Str.ofString "&") i) + 1)).toNat) (by omega) ⟨_, _, Txt.find3 T (PySem.Str.ofString ";") (Txt.find3 T (PySem.Str.ofString "&") i) + 1, _, _, _, ys ++ [Txt.slice T (some i) (some (Txt.find3 T (PySem.Str.ofString "&") i))] ++ [⟨#[c]⟩], n3, r3, ?m0, rfl, strs_push (strs_push hS), by omega, by omega, ?sm, ?ln, u1, u2, rfl⟩
           case m0 => (funext y; by_cases a : y = PySem.Str.ofString "end"; (subst a; rfl); by_cases b : y = PySem.Str.ofString "mark"; (subst b; rfl); by_cases c : y = PySem.Str.ofString "at"; (subst c; rfl); simp only [a, b, c, if_false])
           case sm =>
             have := slice_len (T := T) hi0 q1 (by omega)
             have e1 : (⟨#[c]⟩ : PySem.Str).length = 1 := rfl
             simp only [List.map_append, List.sum_append, List.map_cons, List.map_nil, List.sum_cons, List.sum_nil, e1]
             omega
           case ln => (simp only [List.length_append, List.length_cons, List.length_nil]; omega)
       case er9 =>
         intro e9 small9 h9 tk9 g9 er9 Fg9 R9 U9
         obtain ⟨rfl, hn9⟩ := er9
         have hsn : sg = none := by cases sg with | none => rfl | some c => cases hn9
         repeat' (first | (k_unfold; (try dsimp only)) | (k_end; wrow_close) | (first | (k_here; (with_reducible show wpAny _ _ (call (Value.builtin _) [Value.ref _, _]) _ _ _); k_dflt (refine' append_K ?k1 ?k2 ?k3 ?_ ?z; (case k1 => k_asm); (case k2 => k_asm); (case k3 => k_upd); (case z => ((try simp only [Array.size_push]); (show _ ≤ 16777216); omega))); intro h' F' N'; (try k_sweep)) | ((with_reducible show wpAny _ _ (leaving _ (Value.ref _)) _ _ _); (k_here; (refine' leave_onSN ?k1 ?k2 ?k3 ?k4 ?_; (case k3 => assumption); (case k1 => assumption); (case k4 => assumption); (case k2 => assumption); k_whole; intro h' R' _ U'; (try dsimp only at R' U' ⊢)))) | ((with_reducible show wpAny _ _ (leaving _ (Value.ref _)) _ _ _); (k_here; (refine' leave_newE ?k1 ?k0 ?k2 ?k3 ?kf ?kk ?_; (case kf => exact rfl); (case kk => exact rfl); (case k0 => assumption); (case k1 => assumption); (case k2 => assumption); (case k3 => k_asm); k_whole; intro h' R' U'; (try dsimp only at R' U' ⊢)))) | (k_here; (with_reducible show wpAny _ _ (call (Value.ref 44) [Value.str _ _]) _ _ _); (refine' sheet_call ?kB ?kF ?kX ?kT ?kc ?kk ?kr ?_; (case kc => exact rfl); (case kk => exact rfl); (case kF => k_asm); (case kB => k_asm); (case kX => k_asm); (case kT => k_asm); (case kr => (try dsimp only); omega)); (intro h' e' tk' x'); (refine' raisable_of ?kF ?kX x' ?_; (case kF => k_asm); (case kX => k_asm))) | (k_here; (with_reducible show wpAny _ _ (exec (Stmt.Raise (some (Expr.Call (Expr.Name (PySem.Str.ofString "SheetFault") _) _ _ _)) none _) _) _ _ _); refine Raise_sheetW rfl ?_) | ((with_reducible show wpAny _ _ (subscriptTail _ _ (Value.str _ _) (Value.int _ _)) _ _ _); (refine item_str (fitsSsize_of (N := 9223372036854775808) (by omega) (by omega) (Int.le_refl _)) (by omega) (by omega) ?_; intro _)) | (k_here; (with_reducible show wpAny _ _ (call (Value.builtin "len") [Value.str _ _]) _ _ _); refine P.len_str (by omega) ?_) | walk1) | (dsimp only; (first | (k_here; (with_reducible show wpAny _ _ (call (Value.builtin _) [Value.ref _, _]) _ _ _); k_dflt (refine' append_K ?k1 ?k2 ?k3 ?_ ?z; (case k1 => k_asm); (case k2 => k_asm); (case k3 => k_upd); (case z => ((try simp only [Array.size_push]); (show _ ≤ 16777216); omega))); intro h' F' N'; (try k_sweep)) | ((with_reducible show wpAny _ _ (leaving _ (Value.ref _)) _ _ _); (k_here; (refine' leave_onSN ?k1 ?k2 ?k3 ?k4 ?_; (case k3 => assumption); (case k1 => assumption); (case k4 => assumption); (case k2 => assumption); k_whole; intro h' R' _ U'; (try dsimp only at R' U' ⊢)))) | ((with_reducible show wpAny _ _ (leaving _ (Value.ref _)) _ _ _); (k_here; (refine' leave_newE ?k1 ?k0 ?k2 ?k3 ?kf ?kk ?_; (case kf => exact rfl); (case kk => exact rfl); (case k0 => assumption); (case k1 => assumption); (case k2 => assumption); (case k3 => k_asm); k_whole; intro h' R' U'; (try dsimp only at R' U' ⊢)))) | (k_here; (with_reducible show wpAny _ _ (call (Value.ref 44) [Value.str _ _]) _ _ _); (refine' sheet_call ?kB ?kF ?kX ?kT ?kc ?kk ?kr ?_; (case kc => exact rfl); (case kk => exact rfl); (case kF => k_asm); (case kB => k_asm); (case kX => k_asm); (case kT => k_asm); (case kr => (try dsimp only); omega)); (intro h' e' tk' x'); (refine' raisable_of ?kF ?kX x' ?_; (case kF => k_asm); (case kX => k_asm))) | (k_here; (with_reducible show wpAny _ _ (exec (Stmt.Raise (some (Expr.Call (Expr.Name (PySem.Str.ofString "SheetFault") _) _ _ _)) none _) _) _ _ _); refine Raise_sheetW rfl ?_) | ((with_reducible show wpAny _ _ (subscriptTail _ _ (Value.str _ _) (Value.int _ _)) _ _ _); (refine item_str (fitsSsize_of (N := 9223372036854775808) (by omega) (by omega) (Int.le_refl _)) (by omega) (by omega) ?_; intro _)) | (k_here; (with_reducible show wpAny _ _ (call (Value.builtin "len") [Value.str _ _]) _ _ _); refine P.len_str (by omega) ?_) | walk1)) | (leave1; walk_say "STEP leave1"; try dsimp only) | fail "no step")
         (with_reducible rename RaisedSN _ _ _ _ _ _ _ => hR)
         refine her _ [] _ _ ⟨rfl, hno hsn⟩ (raised_sub hR (List.forall_mem_nil _)) (by assumption))
    | ((with_reducible rename ¬ (Txt.find3 T (PySem.Str.ofString "&") i < (T.length : Int)) => hz)
       (with_reducible rename ¬ (Txt.find3 T (PySem.Str.ofString "&") i < 0) => hf)
       exact absurd (find_lt amp_mk hi0 hf).2 hz)
    | ((with_reducible show wpAny _ _ (call (Value.builtin "str.join") _ _) _ _ _)
       (with_reducible rename ¬ (i < (T.length : Int)) => hge)
       (with_reducible rename News _ _ _ _ => N9)
       refine join_listW (x := PySem.Str.ofString "") (ys := ys) ⟨_, (N9 _ (.head _)).1, rfl, _, rfl⟩ hS (by decide) ?wt ?_
       case wt =>
         have e1 : (ys.map (·.length)).sum = (ys.map PySem.Str.length).sum := rfl
         omega
       intro t9 k9
       have hdrop : T.cps.toList.drop i.toNat = [] := List.drop_eq_nil_of_le (by rw [← len_toList]; omega)
       rw [hdrop] at hu
       have hr9 := unescF_nil hu
       refine hok _ [] _ _ ⟨rfl, catS ys, t9, ?_, ?_⟩ (Fr.keep (by assumption)) (List.forall_mem_nil _)
       · rw [hrr, hr9, Option.map_some, List.append_nil]
       · rw [← catS_join, ← StrLaws.glued_eq_join]
         rfl)
    | w_report
end

section
open PySem PySem.W PySem.Calls PyProof.Rows PySem.Spec
set_option maxRecDepth 100000
set_option maxHeartbeats 4000000

theorem fill_attr (w : World) : PySem.Challenge.rw_xm0717_01.prog = PySem.Challenge.rw_xm0717_01.prog ∧ hd.heap_39 w.params = hd.heap_39 w.params := by k_fill; exact ⟨rfl, rfl⟩

local macro_rules | `(tactic| walk_at "call builtin:len") => `(tactic| (k_here; (with_reducible show wpAny _ _ (call (Value.builtin "len") [Value.str _ _]) _ _ _); refine P.len_str (by omega) ?_))
local macro_rules | `(tactic| walk_at "subscriptTail Name Attribute str int") => `(tactic| (refine item_str (fitsSsize_of (N := 9223372036854775808) (by omega) (by omega) (Int.le_refl _)) (by omega) (by omega) ?_; intro _))
local macro_rules | `(tactic| walk_at "exec Raise some none") => `(tactic| (k_here; (with_reducible show wpAny _ _ (exec (Stmt.Raise (some (Expr.Call (Expr.Name (PySem.Str.ofString "SheetFault") _) _ _ _)) none _) _) _ _ _); refine Raise_sheetW rfl ?_))
local macro_rules | `(tactic| walk_at "call ref") => `(tactic| (k_here; (with_reducible show wpAny _ _ (call (Value.ref 44) [Value.str _ _]) _ _ _); (refine' sheet_call ?kB ?kF ?kX ?kT ?kc ?kk ?kr ?_; (case kc => exact rfl); (case kk => exact rfl); (case kF => k_asm); (case kB => k_asm); (case kX => k_asm); (case kT => k_asm); (case kr => (try dsimp only); omega)); (intro h' e' tk' x'); (refine' raisable_of ?kF ?kX x' ?_; (case kF => k_asm); (case kX => k_asm))))
local macro_rules | `(tactic| walk_at "leaving ref") => `(tactic| (k_here; (refine' leave_newE ?k1 ?k0 ?k2 ?k3 ?kf ?kk ?_; (case kf => exact rfl); (case kk => exact rfl); (case k0 => assumption); (case k1 => assumption); (case k2 => assumption); (case k3 => k_asm); k_whole; intro h' R' U'; (try dsimp only at R' U' ⊢))))
local macro_rules | `(tactic| walk_at "leaving ref") => `(tactic| (k_here; (refine' leave_onSN ?k1 ?k2 ?k3 ?k4 ?_; (case k3 => assumption); (case k1 => assumption); (case k4 => assumption); (case k2 => assumption); k_whole; intro h' R' _ U'; (try dsimp only at R' U' ⊢))))
theorem kr5 {i D kd x dx : Addr} {o1 o2 o3 o4 o5 : Obj} (h1 : @Ne Nat kd x) (h2 : @Ne Nat kd dx) (h3 : @LT.lt Nat _ x D ∧ @LT.lt Nat _ dx D ∧ @LT.lt Nat _ kd D) (h4 : @LT.lt Nat _ D i ∧ @LT.lt Nat _ x i ∧ @LT.lt Nat _ dx i ∧ @LT.lt Nat _ kd i) :
    ∀ p ∈ [(i, o4), (D, o5), (kd, o3)], p.1 ∉ [(x, o1), (dx, o2)].map (·.1) := by
  intro p hp z
  simp only [List.map_cons, List.map_nil, List.mem_cons, List.not_mem_nil, or_false] at z hp
  rcases hp with e | e | e <;> subst e <;> rcases z with z | z
  · exact absurd z (Nat.ne_of_gt h4.2.1)
  · exact absurd z (Nat.ne_of_gt h4.2.2.1)
  · exact absurd z (Nat.ne_of_gt h3.1)
  · exact absurd z (Nat.ne_of_gt h3.2.1)
  · exact h1 z
  · exact h2 z
theorem sub5 {a b c i D : Addr × Obj} : ∀ p ∈ [a, b, c], p ∈ [a, b, i, D, c] := by
  intro p hp
  simp only [List.mem_cons, List.not_mem_nil, or_false] at hp ⊢
  rcases hp with e | e | e <;> simp [e]
theorem sub11 {c : Addr × Obj} : ∀ p ∈ [c], p ∈ [c] := fun p hp => hp
theorem sub13 {a b c : Addr × Obj} : ∀ p ∈ [c], p ∈ [a, b, c] := fun p hp => by rw [List.mem_singleton.mp hp]; simp
theorem sub14 {a b D c : Addr × Obj} : ∀ p ∈ [c], p ∈ [a, b, D, c] := fun p hp => by rw [List.mem_singleton.mp hp]; simp
theorem sub15 {a b i D c : Addr × Obj} : ∀ p ∈ [c], p ∈ [a, b, i, D, c] := fun p hp => by rw [List.mem_singleton.mp hp]; simp
theorem new_sub {g h : Heap} {L : Addr} {news l : List (Addr × Obj)} (N : News g L h news) (k : ∀ p ∈ l, p ∈ news) : ∀ p ∈ l, h.get? p.1 = some p.2 ∧ g.get? p.1 = none := fun p hp => new_of N p (k p hp)
theorem kr3 {kd x dx : Addr} {o1 o2 o3 : Obj} (h1 : @Ne Nat kd x) (h2 : @Ne Nat kd dx) : ∀ p ∈ [(kd, o3)], p.1 ∉ [(x, o1), (dx, o2)].map (·.1) := by
  intro p hp z
  rw [List.mem_singleton.mp hp] at z
  simp only [List.map_cons, List.map_nil, List.mem_cons, List.not_mem_nil, or_false] at z
  rcases z with z | z
  · exact h1 z
  · exact h2 z
local macro_rules | `(tactic| walk_at "call ref") => `(tactic| (k_here; (with_reducible show wpAny _ _ (call (Value.ref 74) _ _) _ _ _); (refine' call_ctrS (takes_ctr ?hx ?hT0 ?h0 ?h1 ?hW _) ?kF ?kB ?kX ?kN ?kT ?kf ?kk ?kd ?ku ?kr ?ok9 ?er9); (case kf => exact rfl); (case kk => exact rfl); (case kN => k_asm); (case kF => k_asm); (case kB => k_asm); (case kX => k_asm); (case kT => k_asm); (case kd => omega); (case ku => omega); (case hx => assumption); (case hT0 => assumption); (case h0 => omega); (case h1 => omega); (case hW => decide); (case kr => first | (exact kr3 (by assumption) (by assumption)) | (exact kr5 (by assumption) (by assumption) (by assumption) (by assumption))); (case' er9 => (intro e9 small9 h9 tk9 g9 er9 Fg9 R9 U9; exact er9.elim; (try simp only [List.nil_append, List.cons_append] at R9))); (case' ok9 => (intro v9 small9 h9 tk9 ok9 lt9 F9 N9; clear lt9; (rcases ok9 with ⟨hq9, hb9, e8, tA9, e7⟩ | ⟨hq9, e8, e7⟩ <;> subst e8 <;> subst e7 <;> (simp only [List.cons_append, List.nil_append, len_eq, len_dq, len_sq] at *))))))
local macro_rules | `(tactic| walk_at "call ref") => `(tactic| (k_here; (with_reducible show wpAny _ _ (call (Value.ref 74) _ _) _ _ _); (refine' call_ctrP (pre := [_, _]) (takes_ctr ?hx ?hT0 ?h0 ?h1 ?hW _) ?kF ?kB ?kX ?kN ?kT ?kf ?kk ?kd ?ku ?kr ?ok9 ?er9); (case kf => exact rfl); (case kk => exact rfl); (case kN => k_asm); (case kF => k_asm); (case kB => k_asm); (case kX => k_asm); (case kT => k_asm); (case kd => omega); (case ku => omega); (case hx => assumption); (case hT0 => assumption); (case h0 => omega); (case h1 => omega); (case hW => decide); (case kr => first | (exact kr3 (by assumption) (by assumption)) | (exact kr5 (by assumption) (by assumption) (by assumption) (by assumption))); (case' er9 => (intro e9 small9 h9 tk9 g9 er9 Fg9 R9 U9; exact er9.elim; (try simp only [List.nil_append, List.cons_append] at R9))); (case' ok9 => (intro v9 small9 h9 tk9 ok9 lt9 F9 N9; clear lt9; (rcases ok9 with ⟨hq9, hb9, e8, tA9, e7⟩ | ⟨hq9, e8, e7⟩ <;> subst e8 <;> subst e7 <;> (simp only [List.cons_append, List.nil_append, len_eq, len_dq, len_sq] at *))))))
local macro_rules | `(tactic| walk_at "call ref") => `(tactic| (k_here; (with_reducible show wpAny _ _ (call (Value.ref 74) _ _) _ _ _); (refine' call_ctrP (pre := [_]) (takes_ctr ?hx ?hT0 ?h0 ?h1 ?hW _) ?kF ?kB ?kX ?kN ?kT ?kf ?kk ?kd ?ku ?kr ?ok9 ?er9); (case kf => exact rfl); (case kk => exact rfl); (case kN => k_asm); (case kF => k_asm); (case kB => k_asm); (case kX => k_asm); (case kT => k_asm); (case kd => omega); (case ku => omega); (case hx => assumption); (case hT0 => assumption); (case h0 => omega); (case h1 => omega); (case hW => decide); (case kr => first | (exact kr3 (by assumption) (by assumption)) | (exact kr5 (by assumption) (by assumption) (by assumption) (by assumption))); (case' er9 => (intro e9 small9 h9 tk9 g9 er9 Fg9 R9 U9; exact er9.elim; (try simp only [List.nil_append, List.cons_append] at R9))); (case' ok9 => (intro v9 small9 h9 tk9 ok9 lt9 F9 N9; clear lt9; (rcases ok9 with ⟨hq9, hb9, e8, tA9, e7⟩ | ⟨hq9, e8, e7⟩ <;> subst e8 <;> subst e7 <;> (simp only [List.cons_append, List.nil_append, len_eq, len_dq, len_sq] at *))))))
local macro_rules | `(tactic| walk_at "call ref") => `(tactic| (k_here; (with_reducible show wpAny _ _ (call (Value.ref 81) _ _) _ _ _); (refine' call_ctrS (until_ctr ?hx ?hT0 ?h0 ?h1 ?hW _) ?kF ?kB ?kX ?kN ?kT ?kf ?kk ?kd ?ku ?kr ?ok9 ?er9); (case kf => exact rfl); (case kk => exact rfl); (case kN => k_asm); (case kF => k_asm); (case kB => k_asm); (case kX => k_asm); (case kT => k_asm); (case kd => omega); (case ku => omega); (case hx => assumption); (case hT0 => assumption); (case h0 => omega); (case h1 => omega); (case hW => decide); (case kr => first | (exact kr3 (by assumption) (by assumption)) | (exact kr5 (by assumption) (by assumption) (by assumption) (by assumption))); (case' er9 => (intro e9 small9 h9 tk9 g9 er9 Fg9 R9 U9; (obtain ⟨hq9, e7⟩ := er9; subst e7); (try simp only [List.nil_append, List.cons_append] at R9))); (case' ok9 => (intro v9 small9 h9 tk9 ok9 lt9 F9 N9; clear lt9; obtain ⟨hq9, t9, tA9, e8, e7⟩ := ok9; subst e8; subst e7; (simp only [List.cons_append, List.nil_append, len_eq, len_dq, len_sq] at *)))))
local macro_rules | `(tactic| walk_at "call ref") => `(tactic| (k_here; (with_reducible show wpAny _ _ (call (Value.ref 88) _ _) _ _ _); (refine' call_ctrS (spaces_ctr ?hx ?hT0 ?h0 ?h1 _) ?kF ?kB ?kX ?kN ?kT ?kf ?kk ?kd ?ku ?kr ?ok9 ?er9); (case kf => exact rfl); (case kk => exact rfl); (case kN => k_asm); (case kF => k_asm); (case kB => k_asm); (case kX => k_asm); (case kT => k_asm); (case kd => omega); (case ku => omega); (case hx => assumption); (case hT0 => assumption); (case h0 => omega); (case h1 => omega); (case kr => first | (exact kr3 (by assumption) (by assumption)) | (exact kr5 (by assumption) (by assumption) (by assumption) (by assumption))); (case' er9 => (intro e9 small9 h9 tk9 g9 er9 Fg9 R9 U9; exact er9.elim; (try simp only [List.nil_append, List.cons_append] at R9))); (case' ok9 => (intro v9 small9 h9 tk9 ok9 lt9 F9 N9; clear lt9; obtain ⟨e8, hb9, hb8, tA9, e7⟩ := ok9; subst e8; subst e7; (simp only [List.cons_append, List.nil_append] at N9)))))
local macro_rules | `(tactic| walk_at "call ref") => `(tactic| (k_here; (with_reducible show wpAny _ _ (call (Value.ref 95) _ _) _ _ _); (refine' call_ctrS (name_ctr ?hx ?hT0 ?h0 ?h1 _) ?kF ?kB ?kX ?kN ?kT ?kf ?kk ?kd ?ku ?kr ?ok9 ?er9); (case kf => exact rfl); (case kk => exact rfl); (case kN => k_asm); (case kF => k_asm); (case kB => k_asm); (case kX => k_asm); (case kT => k_asm); (case kd => omega); (case ku => omega); (case hx => assumption); (case hT0 => assumption); (case h0 => omega); (case h1 => omega); (case kr => first | (exact kr3 (by assumption) (by assumption)) | (exact kr5 (by assumption) (by assumption) (by assumption) (by assumption))); (case' er9 => (intro e9 small9 h9 tk9 g9 er9 Fg9 R9 U9; (obtain ⟨hq9, e7⟩ := er9; subst e7); (try simp only [List.nil_append, List.cons_append] at R9))); (case' ok9 => (intro v9 small9 h9 tk9 ok9 lt9 F9 N9; clear lt9; obtain ⟨hq9, hb9, hb8, t9, tA9, e8, e7⟩ := ok9; subst e8; subst e7; (simp only [List.cons_append, List.nil_append] at N9)))))
local macro_rules | `(tactic| walk_at "compareOp In str ref") => `(tactic| (k_here; (refine' kda_in (knd := PySem.strKind _ _) ?kN (List.mem_cons_of_mem _ (List.mem_cons_of_mem _ (List.mem_cons_self ..))) (by assumption) (by assumption) (strKind_is _ _ _ _) _ (valueAt_some _ _) ?_); (case kN => k_asm)))
local macro_rules | `(tactic| walk_at "setItem ref str") => `(tactic| (k_here; (refine' kda_set (knd := PySem.strKind _ _) ?F ?N ?U ?d (strKind_is _ _ _ _) ?z ?_; (case F => k_asm); (case N => k_asm); (case U => k_updF); (case d => assumption); (case z => (rw [sizeLine_eq]; omega))); intro h' o' F' N' hd'; (try dsimp only at N')))
local macro_rules | `(tactic| walk_at "call ref") => `(tactic| (k_here; (with_reducible show wpAny _ _ (call (Value.ref 114) _ _) _ _ _); (refine Exists.elim (readQ_at (readF_dq (by assumption) (by assumption) (by assumption) (by assumption) (by assumption)) (by assumption) (by assumption)) ?_); intro r8 hx8; (obtain ⟨hr8, he8⟩ := hx8); (refine' call_ctr0 (unescaped_ctr ?hT0 ?hr _) ?kF ?kB ?kX ?kN ?kT ?kf ?kk ?kd ?ku ?ok9 ?er9); (case kf => exact rfl); (case kk => exact rfl); (case kN => k_asm); (case kF => k_asm); (case kB => k_asm); (case kX => k_asm); (case kT => k_asm); (case kd => omega); (case ku => omega); (case hr => exact hr8); (case hT0 => (refine Nat.le_trans (Txt.slice_le _ _ _) ?_; assumption)); (case' er9 => (intro e9 small9 h9 tk9 g9 er9 Fg9 R9 U9; (obtain ⟨e6, e7⟩ := er9; subst e6; subst e7; (dsimp only [Option.map_none] at he8)); (try simp only [List.nil_append, List.cons_append] at R9))); (case' ok9 => (intro v9 small9 h9 tk9 ok9 lt9 F9 N9; clear lt9; obtain ⟨e6, m8, t8, e7, e8⟩ := ok9; subst e6; subst e7; subst e8; (dsimp only [Option.map_some] at he8); (try simp only [List.cons_append, List.nil_append] at N9)))))
local macro_rules | `(tactic| walk_at "call ref") => `(tactic| (k_here; (with_reducible show wpAny _ _ (call (Value.ref 114) _ _) _ _ _); (refine Exists.elim (readQ_at (readF_sq (by assumption) (by assumption) (by assumption) (by assumption) (by assumption) (by assumption)) (by assumption) (by assumption)) ?_); intro r8 hx8; (obtain ⟨hr8, he8⟩ := hx8); (refine' call_ctr0 (unescaped_ctr ?hT0 ?hr _) ?kF ?kB ?kX ?kN ?kT ?kf ?kk ?kd ?ku ?ok9 ?er9); (case kf => exact rfl); (case kk => exact rfl); (case kN => k_asm); (case kF => k_asm); (case kB => k_asm); (case kX => k_asm); (case kT => k_asm); (case kd => omega); (case ku => omega); (case hr => exact hr8); (case hT0 => (refine Nat.le_trans (Txt.slice_le _ _ _) ?_; assumption)); (case' er9 => (intro e9 small9 h9 tk9 g9 er9 Fg9 R9 U9; (obtain ⟨e6, e7⟩ := er9; subst e6; subst e7; (dsimp only [Option.map_none] at he8)); (try simp only [List.nil_append, List.cons_append] at R9))); (case' ok9 => (intro v9 small9 h9 tk9 ok9 lt9 F9 N9; clear lt9; obtain ⟨e6, m8, t8, e7, e8⟩ := ok9; subst e6; subst e7; subst e8; (dsimp only [Option.map_some] at he8); (try simp only [List.cons_append, List.nil_append] at N9)))))
theorem attr_ctr {w : World} {x dx kd : Addr} {hT hA : Int} {kT tT kA tA : Tok} {T : PySem.Str} {ok : Obj} {kvs : List (PySem.Str × Value)} {n : Nat} {res : Option (PySem.Str × List Nat × Int)}
    (hx : @LT.lt Nat _ dx x) (hk1 : @Ne Nat kd x) (hk2 : @Ne Nat kd dx) (hT0 : T.length ≤ 100000) (hk : ok.IsDictOf (PySem.strKind PySem.Challenge.rw_xm0717_01.row.prog w) kvs) (hkl : kvs.length ≤ 1000) (hks : (kd == sysModules) = false)
    (hres : readF n T (kvs.map (·.1)) = some res) :
    CtrAt w 40 121 [.ref x, .ref kd] [(x, instObj 98 dx), (dx, dictOf (scanD hT hA kT tT kA tA T 0) 2), (kd, ok)]
      (fun _ v l => v = .none ∧ ∃ nm m e tA' t' ok', res = some (nm, m, e) ∧ l = [(x, instObj 98 dx), (dx, dictOf (scanD hT hA kT tT kA tA' T e) 2), (kd, ok')] ∧ ok'.IsDictOf (PySem.strKind PySem.Challenge.rw_xm0717_01.row.prog w) (stored kvs nm (.str ⟨m.toArray⟩ t')))
      (fun l => res = none ∧ l = [(kd, ok)]) := by
  intro mean mg mb d u gs base outer g s S hdp hup R hok her
  have hfill : PySem.Challenge.rw_xm0717_01.prog = PySem.Challenge.rw_xm0717_01.prog ∧ hd.heap_39 w.params = hd.heap_39 w.params := by k_fill; exact ⟨rfl, rfl⟩
  clear hfill
  have B := S.below
  have X := S.kin
  have T0 := S.top
  refine' enter (binds := [(PySem.Str.ofString "scanner", .ref x), (PySem.Str.ofString "known", .ref kd)]) S ?k6 ?k7 ?k8 ?k9 ?kB ?_ ?c2 ?c3 ?c4 ?c5; (case k6 => k_is); (case k7 => k_is); (case k8 => k_room); (case k9 => exact BindsTo.of_eq rfl); (case c5 => decide); (case kB => exact locs rfl); (case c2 => exact rfl); (case c3 => exact rfl); (case c4 => exact rfl)
  intro L' h₁ F N
  clear S
  show wpAny _ _ _ _ _ _
  k_fold
  have hl0 : (0 : Int) ≤ T.length := by omega
  repeat' (fail_if_success (with_reducible show wpAny _ _ (call (Value.ref _) _ _) _ _ _)); (first | (k_unfold; (try dsimp only)) | (k_end; wrow_close) | walk1 | (dsimp only; walk1) | fail "no step")
  all_goals try (walk_at "call ref")
  repeat' (fail_if_success (with_reducible show wpAny _ _ (call (Value.ref _) _ _) _ _ _)); (first | (k_unfold; (try dsimp only)) | (k_end; wrow_close) | walk1 | (dsimp only; walk1) | fail "no step")
  all_goals try (walk_at "call ref")
  repeat' (fail_if_success (with_reducible show wpAny _ _ (call (Value.ref _) _ _) _ _ _)); (first | (k_unfold; (try dsimp only)) | (k_end; wrow_close) | walk1 | (dsimp only; walk1) | fail "no step")
  all_goals try (walk_at "call ref")
  repeat' (fail_if_success (with_reducible show wpAny _ _ (call (Value.ref _) _ _) _ _ _)); (first | (k_unfold; (try dsimp only)) | (k_end; wrow_close) | walk1 | (dsimp only; walk1) | fail "no step")
  all_goals try (walk_at "call ref")
  repeat' (fail_if_success (with_reducible show wpAny _ _ (call (Value.ref _) _ _) _ _ _)); (first | (k_unfold; (try dsimp only)) | (k_end; wrow_close) | walk1 | (dsimp only; walk1) | fail "no step")
  all_goals try (walk_at "call ref")
  repeat' (fail_if_success (with_reducible show wpAny _ _ (call (Value.ref _) _ _) _ _ _)); (first | (k_unfold; (try dsimp only)) | (k_end; wrow_close) | walk1 | (dsimp only; walk1) | fail "no step")
  all_goals try (walk_at "call ref")
  repeat' (fail_if_success (with_reducible show wpAny _ _ (call (Value.ref _) _ _) _ _ _)); (first | (k_unfold; (try dsimp only)) | (k_end; wrow_close) | walk1 | (dsimp only; walk1) | fail "no step")
  all_goals try (walk_at "call ref")
  repeat' (fail_if_success (with_reducible show wpAny _ _ (call (Value.ref _) _ _) _ _ _)); (first | (k_unfold; (try dsimp only)) | (k_end; wrow_close) | walk1 | (dsimp only; walk1) | fail "no step")
  all_goals try (walk_at "call ref")
  repeat' (fail_if_success (with_reducible show wpAny _ _ (call (Value.ref _) _ _) _ _ _)); (first | (k_unfold; (try dsimp only)) | (k_end; wrow_close) | walk1 | (dsimp only; walk1) | fail "no step")
  all_goals first
    | (refine hok _ [(x, _), (dx, _), (kd, _)] _ _ ⟨rfl, _, _, _, _, _, _, by assumption, rfl, by assumption⟩ (Fr.keep (by assumption)) (new_sub (by assumption) sub5))
    | (refine her _ [(kd, ok)] _ _ ⟨?e1, rfl⟩ ?e2 (by assumption); (case e2 => first | (refine raised_sub (by assumption) sub11) | (refine raised_sub (by assumption) sub13) | (refine raised_sub (by assumption) sub14) | (refine raised_sub (by assumption) sub15)); (case e1 => (first | assumption | exact readF_e1 hres (by assumption) | exact readF_e2 hres (by assumption) (by assumption) | exact readF_e3 hres (by assumption) (by assumption) (by assumption) | exact readF_e4 hres (by assumption) (by assumption) (by assumption) (by assumption) (by assumption) | exact readQ_e1 (readF_dq hres (by assumption) (by assumption) (by assumption) (by assumption)) (by assumption) | exact readQ_e2 (readF_dq hres (by assumption) (by assumption) (by assumption) (by assumption)) (by assumption) (by assumption) | exact readQ_e1 (readF_sq hres (by assumption) (by assumption) (by assumption) (by assumption) (by assumption)) (by assumption) | exact readQ_e2 (readF_sq hres (by assumption) (by assumption) (by assumption) (by assumption) (by assumption)) (by assumption) (by assumption))))
end

section
open PySem PySem.W PySem.Calls PyProof.Rows PySem.Spec
set_option maxRecDepth 100000
set_option maxHeartbeats 4000000

/-- rows as the dict holds them, and as texts -/
inductive SRows : List (PySem.Str × Value) → List (PySem.Str × PySem.Str) → Prop
  | nil : SRows [] []
  | cons {k x : PySem.Str} {t : Tok} {kvs : List (PySem.Str × Value)} {rs : List (PySem.Str × PySem.Str)} : SRows kvs rs → SRows ((k, .str x t) :: kvs) ((k, x) :: rs)
def rowD (r : PySem.Str × PySem.Str) : Dat := .tuple [.str r.1, .str r.2]
theorem SRows.keys {kvs : List (PySem.Str × Value)} {rs : List (PySem.Str × PySem.Str)} (h : SRows kvs rs) : kvs.map (·.1) = rs.map (·.1) := by
  induction h with
  | nil => rfl
  | cons _ ih => simp only [List.map_cons, ih]
theorem SRows.length {kvs : List (PySem.Str × Value)} {rs : List (PySem.Str × PySem.Str)} (h : SRows kvs rs) : kvs.length = rs.length := by
  induction h with
  | nil => rfl
  | cons _ ih => simp only [List.length_cons, ih]
theorem SRows.push {kvs : List (PySem.Str × Value)} {rs : List (PySem.Str × PySem.Str)} (h : SRows kvs rs) (k x : PySem.Str) (t : Tok) : SRows (kvs ++ [(k, .str x t)]) (rs ++ [(k, x)]) := by
  induction h with
  | nil => exact .cons .nil
  | cons _ ih => exact .cons ih
theorem stored_new {kvs : List (PySem.Str × Value)} {k : PySem.Str} {v : Value} (h : k ∉ kvs.map (·.1)) : stored kvs k v = kvs ++ [(k, v)] := by
  unfold stored
  rw [if_neg]
  intro z
  obtain ⟨p, hp, e⟩ := List.any_eq_true.mp z
  exact h (List.mem_map.mpr ⟨p, hp, of_decide_eq_true e⟩)
theorem stored_all : ∀ (kvs acc : List (PySem.Str × Value)), ((acc ++ kvs).map (·.1)).Nodup → kvs.foldl (fun kvs r => stored kvs r.1 r.2) acc = acc ++ kvs
  | [], acc, _ => by simp
  | p :: kvs, acc, h => by
    have hp : p.1 ∉ acc.map (·.1) := by
      rw [List.map_append, List.map_cons] at h
      exact fun z => (List.nodup_append.mp h).2.2 _ z _ (.head _) rfl
    rw [List.foldl_cons, stored_new hp, stored_all kvs (acc ++ [(p.1, p.2)]) (by simpa using h)]
    simp
theorem rows_read {h₀ h : Heap} {L : Addr} {news n₁ : List (Addr × Obj)} (N : ∀ p ∈ news, h.get? p.1 = some p.2) (sub : ∀ p ∈ n₁, p ∈ news) : ∀ {vs : List Value} (rs : List (PySem.Str × PySem.Str)), DatAll n₁ vs (rs.map rowD) → ∃ kvs, PairsAt h vs kvs ∧ SRows kvs rs
  | _, [], .nil => ⟨[], .nil, .nil⟩
  | _, r :: rs, .cons hd hr => by
    obtain ⟨kvs, a, b⟩ := rows_read (h₀ := h₀) (L := L) N sub rs hr
    cases hd with
    | tuple hm hv =>
      cases hv with
      | cons h1 hv =>
        cases hv with
        | cons h2 hv =>
          cases hv
          cases h1
          cases h2
          exact ⟨_, .cons ⟨_, _, _, _, rfl, N _ (sub _ hm), rfl, rfl⟩ a, .cons b⟩
theorem open_all {lo : Addr} {news : List (Addr × Obj)} {C : List Value → List (Addr × Obj) → Prop} : ∀ {kvs : List (PySem.Str × Value)} {rs : List (PySem.Str × PySem.Str)}, SRows kvs rs → ∀ (vs : List Value) (tups : List (Addr × Obj)),
    (∀ vs' tups', DatAll tups' vs' (rs.map rowD) → C (vs ++ vs') (tups' ++ tups)) → KdxOpen lo news (kvs.map fun p => (kyVal (PyData.str p.1), p.2)) vs tups C
  | _, _, .nil, vs, tups, h => KdxOpen.nil (by simpa using h [] [] .nil)
  | _, _, .cons (k := k) (x := x) (t := t) (kvs := kvs) (rs := rs) r, vs, tups, h => by
    refine KdxOpen.cons fun a ta _ _ _ => open_all r _ _ fun vs' tups' hD => ?_
    have := h (.ref a :: vs') (tups' ++ [(a, ({ cls := .type "tuple", data := .seq #[kyVal (PyData.str k) ta, .str x t] } : Obj))]) (.cons (.tuple (vs := [.str k ta, .str x t]) (List.mem_append_right _ (.head _)) (.cons (.str _ _) (.cons (.str _ _) .nil))) (hD.mono fun p hp => List.mem_append_left _ hp))
    simpa [List.append_assoc] using this
theorem readQ_name {n : Nat} {T nm nm' q : PySem.Str} {p : Int} {m : List Nat} {e : Int} (h : readQ n T nm' q p = some (some (nm, m, e))) : nm = nm' := by
  unfold readQ at h
  split at h
  · cases h
  · split at h
    · cases h
    · obtain ⟨r, _, z⟩ := Option.map_eq_some_iff.mp h
      cases r with
      | none => cases z
      | some r =>
        simp only [Option.map_some, Option.some.injEq, Prod.mk.injEq] at z
        exact z.1.symm
theorem readF_new {n : Nat} {T nm : PySem.Str} {m : List Nat} {e : Int} {keys : List PySem.Str} (h : readF n T keys = some (some (nm, m, e))) : nm ∉ keys := by
  unfold readF at h
  split at h
  · cases h
  · split at h
    · cases h
    · split at h
      · cases h
      · rename_i hk
        split at h
        · rw [readQ_name h]; exact hk
        · split at h
          · rw [readQ_name h]; exact hk
          · cases h
theorem srows_stored {kvs : List (PySem.Str × Value)} {rs : List (PySem.Str × PySem.Str)} {n : Nat} {T nm : PySem.Str} {m : List Nat} {e : Int} {t : Tok} (hr : SRows kvs rs) (h : readF n T (kvs.map (·.1)) = some (some (nm, m, e))) :
    SRows (stored kvs nm (.str ⟨m.toArray⟩ t)) (rs ++ [(nm, ⟨m.toArray⟩)]) := by
  rw [stored_new (readF_new h)]
  exact hr.push _ _ _
theorem srows_len {kvs : List (PySem.Str × Value)} {k : PySem.Str} {v : Value} : (stored kvs k v).length ≤ kvs.length + 1 := by
  unfold stored
  split <;> simp
theorem ans_of {t B : Addr} {tups : List (Addr × Obj)} {vs : List Value} {c : Nat} {r : Value} {ds : List Dat} {d : Dat} (hD : DatAll tups vs ds) (hv : DatIn [] r d) :
    DatIn ((t, ({ cls := .type "tuple", data := .seq #[.ref B, r] } : Obj)) :: (B, W.listOf vs.toArray c) :: tups) (.ref t) (.tuple [.list ds, d]) :=
  .tuple (vs := [.ref B, r]) (.head _) (.cons (.list (.tail _ (.head _)) (hD.mono fun p hp => .tail _ (.tail _ hp))) (.cons (hv.mono (List.forall_mem_nil _)) .nil))
section
variable {prog : Program} {w : World} {A : Around} {E : Value → Shared → Prop} {s : Shared} {h₀ : Heap} {L v d : Addr} {m : PySem.Str → Option Value} {news : List (Addr × Obj)} {od : Obj} {kvs : List (PySem.Str × Value)} {rs : List (PySem.Str × PySem.Str)} {Q : Value → Shared → Prop}
theorem list_items (hh : A.handled = none) (F : Fr h₀ L s.heap m) (N : News h₀ L s.heap news) (hvw : (v, { cls := .type "dict_items", data := .fields #[.ref d] }) ∈ news) (hmd : (d, od) ∈ news) (hod : od.IsDictOf (PySem.strKind prog w) kvs) (hn : kvs.length ≤ 10000) (hrs : SRows kvs rs)
    (h : ∀ B vs tups c h' tk, DatAll tups vs (rs.map rowD) → Fr h₀ L h' m → News h₀ L h' ((B, W.listOf vs.toArray c) :: tups) → Q (.ref B) { s with heap := h', toks := tk }) :
    wpAny (model prog w) A (call (.type "list") [.ref v]) Q E s := by
  refine kdx_listN (knd := PySem.strKind prog w) (enc := PyData.str) hh F N hvw hmd hod (by omega) (fun k v hk => ?_) rfl fun B _ => open_all hrs [] [] fun vs tups hD => ?_
  · obtain ⟨t, rfl⟩ := Value.isStrOf_shape hk
    exact ⟨t, rfl⟩
  · rw [List.nil_append, List.append_nil]
    intro c h' tk _ F' N'
    refine h B vs tups c h' tk hD F' fun p hp => N' p ?_
    rcases List.mem_cons.mp hp with e | e
    · rw [e]; exact List.mem_append_right _ (.head _)
    · exact List.mem_append_left _ e
end
end

section
open PySem PySem.W PySem.Calls PyProof.Rows PySem.Spec
set_option maxRecDepth 100000
set_option maxHeartbeats 4000000

theorem fill_asked (w : World) : PySem.Challenge.rw_xm0717_01.prog = PySem.Challenge.rw_xm0717_01.prog ∧ hd.heap_39 w.params = hd.heap_39 w.params := by k_fill; exact ⟨rfl, rfl⟩

theorem perm3 {g h : Heap} {L : Addr} {a b c : Addr × Obj} (N : News g L h [c, a, b]) : News g L h ([a, b, c] ++ []) := fun p hp => N p (by simp only [List.append_nil, List.mem_cons, List.not_mem_nil, or_false] at hp ⊢; rcases hp with e | e | e <;> simp [e])
theorem perm3b {g h : Heap} {L : Addr} {a b c : Addr × Obj} (N : News g L h [c, b, a]) : News g L h ([a, b, c] ++ []) := fun p hp => N p (by simp only [List.append_nil, List.mem_cons, List.not_mem_nil, or_false] at hp ⊢; rcases hp with e | e | e <;> simp [e])
theorem perm4 {g h : Heap} {L : Addr} {a b c t : Addr × Obj} (N : News g L h [t, c, a, b]) : News g L h ([a, b, c] ++ [t]) := fun p hp => N p (by simp only [List.cons_append, List.nil_append, List.mem_cons, List.not_mem_nil, or_false] at hp ⊢; rcases hp with e | e | e | e <;> simp [e])
theorem kr4 {t x d k : Addr} {o1 o2 o3 o4 : Obj} (h : @LT.lt Nat _ k t ∧ @LT.lt Nat _ x t ∧ @LT.lt Nat _ d t) : ∀ p ∈ [(t, o4)], p.1 ∉ [(x, o1), (d, o2), (k, o3)].map (·.1) := by
  intro p hp z
  rw [List.mem_singleton.mp hp] at z
  simp only [List.map_cons, List.map_nil, List.mem_cons, List.not_mem_nil, or_false] at z
  rcases z with z | z | z
  · exact absurd z (Nat.ne_of_gt h.2.1)
  · exact absurd z (Nat.ne_of_gt h.2.2)
  · exact absurd z (Nat.ne_of_gt h.1)
theorem ne1 {x d k : Addr} (h : @LT.lt Nat _ x k ∧ @LT.lt Nat _ d k) : @Ne Nat k x := Nat.ne_of_gt h.1
theorem ne2 {x d k : Addr} (h : @LT.lt Nat _ x k ∧ @LT.lt Nat _ d k) : @Ne Nat k d := Nat.ne_of_gt h.2

def ansD (T : PySem.Str) (rs : List (PySem.Str × PySem.Str)) : Option (PySem.Str × List Nat × Int) → Dat
  | none => .tuple [.list (rs.map rowD), .none]
  | some (nm, m, e) => .tuple [.list ((rs ++ [(nm, (⟨m.toArray⟩ : PySem.Str))]).map rowD), .str (Txt.slice T (some e) none)]
theorem asked_site {w : World} {mean : ExcName → Option Value} {mg mb : PySem.Str → Option Value} {d u : Nat} {gs : Option (List Code)} {base g : Heap} {outer : List Env} {s : Shared} {T : PySem.Str} {tT : Tok} {rl : Addr} {kr : Nat} {vs : List Value} {kvs : List (PySem.Str × Value)} {rs : List (PySem.Str × PySem.Str)} {n : Nat} {res : Option (PySem.Str × List Nat × Int)}
    (S : Site w mean mg mb ⟨none, d, some outer, gs, u⟩ base outer g s []) (XB : (hd.heap_39 w.params).In base) (TB : Top hd.view_39 (looseW hd.view_39 [Str.ofString "ENDS"]) mean mg mb base) (D : KtsDicts (outer.filterMap (·.frame)) g)
    (hT0 : T.length ≤ 100000) (hl : g.get? rl = some { cls := .type "list", data := .seq vs.toArray kr }) (hp : PairsAt g vs kvs) (hr : SRows kvs rs) (hkl : kvs.length ≤ 1000) (hnd : (([] ++ kvs : List (PySem.Str × Value)).map (·.1)).Nodup)
    (hres : readF n T (kvs.map (·.1)) = some res) (hdp : d + 50 ≤ 400) (hup : u + 200 ≤ 4000) {R : Result → Shared → Prop}
    (hok : ∀ v news' h' tk g', KtsTurn (outer.filterMap (·.frame)) g g' → g'.StaysIn h' → (∀ p ∈ news', h'.get? p.1 = some p.2 ∧ g'.get? p.1 = none) → DatIn news' v (ansD T rs res) → R (.ok (.ret v)) { s with heap := h', toks := tk }) :
    codeAny (model PySem.Challenge.rw_xm0717_01.row.prog w) ⟨none, d, some outer, gs, u⟩ (.call (.ref 149) ⟨[.str T tT, .ref rl], []⟩) R s := by
  have hfill : PySem.Challenge.rw_xm0717_01.prog = PySem.Challenge.rw_xm0717_01.prog ∧ hd.heap_39 w.params = hd.heap_39 w.params := by k_fill; exact ⟨rfl, rfl⟩
  clear hfill
  have B := S.below
  have X := S.kin
  have T0 := S.top
  refine' enter (binds := [(PySem.Str.ofString "text", .str T tT), (PySem.Str.ofString "rows", .ref rl)]) S ?k6 ?k7 ?k8 ?k9 ?kB ?_ ?c2 ?c3 ?c4 ?c5; (case k6 => k_is); (case k7 => k_is); (case k8 => k_room); (case k9 => exact BindsTo.of_eq rfl); (case c5 => decide); (case kB => exact locs rfl); (case c2 => exact rfl); (case c3 => exact rfl); (case c4 => exact rfl)
  intro L' h₁ F N
  clear S
  show wpAny _ _ _ _ _ _
  k_fold
  repeat' (fail_if_success (with_reducible show wpAny _ _ (call (Value.ref 121) _ _) _ _ _)); (first | (k_unfold; (try dsimp only)) | (k_end; wrow_close) | (first | (k_here; (with_reducible show wpAny _ _ (call (Value.type "list") [Value.ref _]) _ _ _); (refine' list_items ?hh ?kF ?kN ?hv ?hm ?hd ?hn ?hr ?_; (case hh => exact rfl); (case kF => k_asm); (case kN => k_asm); (case hv => exact List.mem_cons_self ..); (case hm => first | exact List.mem_cons_of_mem _ (List.mem_cons_self ..) | exact List.mem_cons_of_mem _ (List.mem_cons_of_mem _ (List.mem_cons_of_mem _ (List.mem_cons_self ..)))); (case hd => assumption); (case hn => first | omega | (refine Nat.le_trans srows_len ?_; omega)); (case hr => first | exact srows_stored (by assumption) (by assumption) | assumption)); intro B7 vs7 tups7 c7 h7 tk7 D7 F7 N7) | (k_here; (with_reducible show wpAny _ _ (call (Value.type "dict") [Value.ref _]) _ _ _); (refine' dict_new ?hh ?kF ?kN ?kT ?hl ?hr ?hz ?_; (case hh => exact rfl); (case kF => k_asm); (case kN => k_asm); (case kT => k_asm); (case hl => (with_reducible rename Fr _ _ _ _ => hF9; exact hF9.keep _ _ (by assumption))); (case hr => (with_reducible rename Fr _ _ _ _ => hF9; exact PairsAt.mono hF9.keep (by assumption))); (case hz => assumption)); intro D8 h8 tk8 o8 F8 N8 lt8 ms8 hd8; (rw [stored_all _ [] (by assumption), List.nil_append] at hd8); (try k_lt lt8)) | ((with_reducible show wpAny _ _ (leaving _ (Value.ref _)) _ _ _); (k_here; (refine' leave_onSN ?k1 ?k2 ?k3 ?k4 ?_; (case k3 => assumption); (case k1 => assumption); (case k4 => assumption); (case k2 => assumption); k_whole; intro h' R' _ U'; (try dsimp only at R' U' ⊢)))) | ((with_reducible show wpAny _ _ (leaving _ (Value.ref _)) _ _ _); (k_here; (refine' leave_newE ?k1 ?k0 ?k2 ?k3 ?kf ?kk ?_; (case kf => exact rfl); (case kk => exact rfl); (case k0 => assumption); (case k1 => assumption); (case k2 => assumption); (case k3 => k_asm); k_whole; intro h' R' U'; (try dsimp only at R' U' ⊢)))) | (k_here; (with_reducible show wpAny _ _ (call (Value.ref 44) [Value.str _ _]) _ _ _); (refine' sheet_call ?kB ?kF ?kX ?kT ?kc ?kk ?kr ?_; (case kc => exact rfl); (case kk => exact rfl); (case kF => k_asm); (case kB => k_asm); (case kX => k_asm); (case kT => k_asm); (case kr => (try dsimp only); omega)); (intro h' e' tk' x'); (refine' raisable_of ?kF ?kX x' ?_; (case kF => k_asm); (case kX => k_asm))) | (k_here; (with_reducible show wpAny _ _ (exec (Stmt.Raise (some (Expr.Call (Expr.Name (PySem.Str.ofString "SheetFault") _) _ _ _)) none _) _) _ _ _); refine Raise_sheetW rfl ?_) | ((with_reducible show wpAny _ _ (subscriptTail _ _ (Value.str _ _) (Value.int _ _)) _ _ _); (refine item_str (fitsSsize_of (N := 9223372036854775808) (by omega) (by omega) (Int.le_refl _)) (by omega) (by omega) ?_; intro _)) | (k_here; (with_reducible show wpAny _ _ (call (Value.builtin "len") [Value.str _ _]) _ _ _); refine P.len_str (by omega) ?_) | walk1) | (dsimp only; (first | (k_here; (with_reducible show wpAny _ _ (call (Value.type "list") [Value.ref _]) _ _ _); (refine' list_items ?hh ?kF ?kN ?hv ?hm ?hd ?hn ?hr ?_; (case hh => exact rfl); (case kF => k_asm); (case kN => k_asm); (case hv => exact List.mem_cons_self ..); (case hm => first | exact List.mem_cons_of_mem _ (List.mem_cons_self ..) | exact List.mem_cons_of_mem _ (List.mem_cons_of_mem _ (List.mem_cons_of_mem _ (List.mem_cons_self ..)))); (case hd => assumption); (case hn => first | omega | (refine Nat.le_trans srows_len ?_; omega)); (case hr => first | exact srows_stored (by assumption) (by assumption) | assumption)); intro B7 vs7 tups7 c7 h7 tk7 D7 F7 N7) | (k_here; (with_reducible show wpAny _ _ (call (Value.type "dict") [Value.ref _]) _ _ _); (refine' dict_new ?hh ?kF ?kN ?kT ?hl ?hr ?hz ?_; (case hh => exact rfl); (case kF => k_asm); (case kN => k_asm); (case kT => k_asm); (case hl => (with_reducible rename Fr _ _ _ _ => hF9; exact hF9.keep _ _ (by assumption))); (case hr => (with_reducible rename Fr _ _ _ _ => hF9; exact PairsAt.mono hF9.keep (by assumption))); (case hz => assumption)); intro D8 h8 tk8 o8 F8 N8 lt8 ms8 hd8; (rw [stored_all _ [] (by assumption), List.nil_append] at hd8); (try k_lt lt8)) | ((with_reducible show wpAny _ _ (leaving _ (Value.ref _)) _ _ _); (k_here; (refine' leave_onSN ?k1 ?k2 ?k3 ?k4 ?_; (case k3 => assumption); (case k1 => assumption); (case k4 => assumption); (case k2 => assumption); k_whole; intro h' R' _ U'; (try dsimp only at R' U' ⊢)))) | ((with_reducible show wpAny _ _ (leaving _ (Value.ref _)) _ _ _); (k_here; (refine' leave_newE ?k1 ?k0 ?k2 ?k3 ?kf ?kk ?_; (case kf => exact rfl); (case kk => exact rfl); (case k0 => assumption); (case k1 => assumption); (case k2 => assumption); (case k3 => k_asm); k_whole; intro h' R' U'; (try dsimp only at R' U' ⊢)))) | (k_here; (with_reducible show wpAny _ _ (call (Value.ref 44) [Value.str _ _]) _ _ _); (refine' sheet_call ?kB ?kF ?kX ?kT ?kc ?kk ?kr ?_; (case kc => exact rfl); (case kk => exact rfl); (case kF => k_asm); (case kB => k_asm); (case kX => k_asm); (case kT => k_asm); (case kr => (try dsimp only); omega)); (intro h' e' tk' x'); (refine' raisable_of ?kF ?kX x' ?_; (case kF => k_asm); (case kX => k_asm))) | (k_here; (with_reducible show wpAny _ _ (exec (Stmt.Raise (some (Expr.Call (Expr.Name (PySem.Str.ofString "SheetFault") _) _ _ _)) none _) _) _ _ _); refine Raise_sheetW rfl ?_) | ((with_reducible show wpAny _ _ (subscriptTail _ _ (Value.str _ _) (Value.int _ _)) _ _ _); (refine item_str (fitsSsize_of (N := 9223372036854775808) (by omega) (by omega) (Int.le_refl _)) (by omega) (by omega) ?_; intro _)) | (k_here; (with_reducible show wpAny _ _ (call (Value.builtin "len") [Value.str _ _]) _ _ _); refine P.len_str (by omega) ?_) | walk1)) | fail "no step")
  (refine' call_ctrS (attr_ctr ?hx ?hk1 ?hk2 ?hT0 ?hk ?hkl ?hks ?hres) ?kF ?kB ?kX ?kN ?kT ?kf ?kk ?kd ?ku ?kr ?ok9 ?er9); (case kf => exact rfl); (case kk => exact rfl); (case kN => exact perm4 (by k_asm)); (case kF => k_asm); (case kB => k_asm); (case kX => k_asm); (case kT => k_asm); (case kd => omega); (case ku => omega); (case hx => assumption); (case hk1 => exact ne1 (by assumption)); (case hk2 => exact ne2 (by assumption)); (case hT0 => assumption); (case hk => assumption); (case hkl => assumption); (case hks => assumption); (case hres => assumption); (case kr => exact kr4 (by assumption)); (case' er9 => (intro e9 small9 h9 tk9 g9 er9 Fg9 R9 U9; (obtain ⟨e6, e7⟩ := er9; subst e6; subst e7); (try simp only [List.nil_append, List.cons_append] at R9))); (case' ok9 => (intro v9 small9 h9 tk9 ok9 lt9 F9 N9; clear lt9; obtain ⟨e5, nm9, m9, a9, tA9, t9, ok8, e6, e7, hd9⟩ := ok9; subst e5; subst e6; subst e7; (simp only [List.cons_append, List.nil_append] at N9)))
  repeat' (fail_if_success (with_reducible show wpAny _ _ (call (Value.ref 122) _ _) _ _ _)); (first | (k_unfold; (try dsimp only)) | (k_end; wrow_close) | (first | (k_here; (with_reducible show wpAny _ _ (call (Value.type "list") [Value.ref _]) _ _ _); (refine' list_items ?hh ?kF ?kN ?hv ?hm ?hd ?hn ?hr ?_; (case hh => exact rfl); (case kF => k_asm); (case kN => k_asm); (case hv => exact List.mem_cons_self ..); (case hm => first | exact List.mem_cons_of_mem _ (List.mem_cons_self ..) | exact List.mem_cons_of_mem _ (List.mem_cons_of_mem _ (List.mem_cons_of_mem _ (List.mem_cons_self ..)))); (case hd => assumption); (case hn => first | omega | (refine Nat.le_trans srows_len ?_; omega)); (case hr => first | exact srows_stored (by assumption) (by assumption) | assumption)); intro B7 vs7 tups7 c7 h7 tk7 D7 F7 N7) | (k_here; (with_reducible show wpAny _ _ (call (Value.type "dict") [Value.ref _]) _ _ _); (refine' dict_new ?hh ?kF ?kN ?kT ?hl ?hr ?hz ?_; (case hh => exact rfl); (case kF => k_asm); (case kN => k_asm); (case kT => k_asm); (case hl => (with_reducible rename Fr _ _ _ _ => hF9; exact hF9.keep _ _ (by assumption))); (case hr => (with_reducible rename Fr _ _ _ _ => hF9; exact PairsAt.mono hF9.keep (by assumption))); (case hz => assumption)); intro D8 h8 tk8 o8 F8 N8 lt8 ms8 hd8; (rw [stored_all _ [] (by assumption), List.nil_append] at hd8); (try k_lt lt8)) | ((with_reducible show wpAny _ _ (leaving _ (Value.ref _)) _ _ _); (k_here; (refine' leave_onSN ?k1 ?k2 ?k3 ?k4 ?_; (case k3 => assumption); (case k1 => assumption); (case k4 => assumption); (case k2 => assumption); k_whole; intro h' R' _ U'; (try dsimp only at R' U' ⊢)))) | ((with_reducible show wpAny _ _ (leaving _ (Value.ref _)) _ _ _); (k_here; (refine' leave_newE ?k1 ?k0 ?k2 ?k3 ?kf ?kk ?_; (case kf => exact rfl); (case kk => exact rfl); (case k0 => assumption); (case k1 => assumption); (case k2 => assumption); (case k3 => k_asm); k_whole; intro h' R' U'; (try dsimp only at R' U' ⊢)))) | (k_here; (with_reducible show wpAny _ _ (call (Value.ref 44) [Value.str _ _]) _ _ _); (refine' sheet_call ?kB ?kF ?kX ?kT ?kc ?kk ?kr ?_; (case kc => exact rfl); (case kk => exact rfl); (case kF => k_asm); (case kB => k_asm); (case kX => k_asm); (case kT => k_asm); (case kr => (try dsimp only); omega)); (intro h' e' tk' x'); (refine' raisable_of ?kF ?kX x' ?_; (case kF => k_asm); (case kX => k_asm))) | (k_here; (with_reducible show wpAny _ _ (exec (Stmt.Raise (some (Expr.Call (Expr.Name (PySem.Str.ofString "SheetFault") _) _ _ _)) none _) _) _ _ _); refine Raise_sheetW rfl ?_) | ((with_reducible show wpAny _ _ (subscriptTail _ _ (Value.str _ _) (Value.int _ _)) _ _ _); (refine item_str (fitsSsize_of (N := 9223372036854775808) (by omega) (by omega) (Int.le_refl _)) (by omega) (by omega) ?_; intro _)) | (k_here; (with_reducible show wpAny _ _ (call (Value.builtin "len") [Value.str _ _]) _ _ _); refine P.len_str (by omega) ?_) | walk1) | (dsimp only; (first | (k_here; (with_reducible show wpAny _ _ (call (Value.type "list") [Value.ref _]) _ _ _); (refine' list_items ?hh ?kF ?kN ?hv ?hm ?hd ?hn ?hr ?_; (case hh => exact rfl); (case kF => k_asm); (case kN => k_asm); (case hv => exact List.mem_cons_self ..); (case hm => first | exact List.mem_cons_of_mem _ (List.mem_cons_self ..) | exact List.mem_cons_of_mem _ (List.mem_cons_of_mem _ (List.mem_cons_of_mem _ (List.mem_cons_self ..)))); (case hd => assumption); (case hn => first | omega | (refine Nat.le_trans srows_len ?_; omega)); (case hr => first | exact srows_stored (by assumption) (by assumption) | assumption)); intro B7 vs7 tups7 c7 h7 tk7 D7 F7 N7) | (k_here; (with_reducible show wpAny _ _ (call (Value.type "dict") [Value.ref _]) _ _ _); (refine' dict_new ?hh ?kF ?kN ?kT ?hl ?hr ?hz ?_; (case hh => exact rfl); (case kF => k_asm); (case kN => k_asm); (case kT => k_asm); (case hl => (with_reducible rename Fr _ _ _ _ => hF9; exact hF9.keep _ _ (by assumption))); (case hr => (with_reducible rename Fr _ _ _ _ => hF9; exact PairsAt.mono hF9.keep (by assumption))); (case hz => assumption)); intro D8 h8 tk8 o8 F8 N8 lt8 ms8 hd8; (rw [stored_all _ [] (by assumption), List.nil_append] at hd8); (try k_lt lt8)) | ((with_reducible show wpAny _ _ (leaving _ (Value.ref _)) _ _ _); (k_here; (refine' leave_onSN ?k1 ?k2 ?k3 ?k4 ?_; (case k3 => assumption); (case k1 => assumption); (case k4 => assumption); (case k2 => assumption); k_whole; intro h' R' _ U'; (try dsimp only at R' U' ⊢)))) | ((with_reducible show wpAny _ _ (leaving _ (Value.ref _)) _ _ _); (k_here; (refine' leave_newE ?k1 ?k0 ?k2 ?k3 ?kf ?kk ?_; (case kf => exact rfl); (case kk => exact rfl); (case k0 => assumption); (case k1 => assumption); (case k2 => assumption); (case k3 => k_asm); k_whole; intro h' R' U'; (try dsimp only at R' U' ⊢)))) | (k_here; (with_reducible show wpAny _ _ (call (Value.ref 44) [Value.str _ _]) _ _ _); (refine' sheet_call ?kB ?kF ?kX ?kT ?kc ?kk ?kr ?_; (case kc => exact rfl); (case kk => exact rfl); (case kF => k_asm); (case kB => k_asm); (case kX => k_asm); (case kT => k_asm); (case kr => (try dsimp only); omega)); (intro h' e' tk' x'); (refine' raisable_of ?kF ?kX x' ?_; (case kF => k_asm); (case kX => k_asm))) | (k_here; (with_reducible show wpAny _ _ (exec (Stmt.Raise (some (Expr.Call (Expr.Name (PySem.Str.ofString "SheetFault") _) _ _ _)) none _) _) _ _ _); refine Raise_sheetW rfl ?_) | ((with_reducible show wpAny _ _ (subscriptTail _ _ (Value.str _ _) (Value.int _ _)) _ _ _); (refine item_str (fitsSsize_of (N := 9223372036854775808) (by omega) (by omega) (Int.le_refl _)) (by omega) (by omega) ?_; intro _)) | (k_here; (with_reducible show wpAny _ _ (call (Value.builtin "len") [Value.str _ _]) _ _ _); refine P.len_str (by omega) ?_) | walk1)) | fail "no step")
  all_goals (show R (.ok (.ret _)) _)
  all_goals (refine hok _ _ _ _ _ ?T (Fr.keep (by assumption)) (new_of (by assumption)) (ans_of (by assumption) ?D); (case T => first | assumption | exact KtsTurn.refl); (case D => first | exact .none | exact .str _ _))
end

section
open PySem PySem.W PySem.Calls PyProof.Rows PySem.Spec
set_option maxRecDepth 100000
set_option maxHeartbeats 4000000

section
variable {w : World} {mean : ExcName → Option Value} {mg mb : PySem.Str → Option Value} {E : Value → Shared → Prop} {s : Shared} {base h₀ : Heap} {d u : Nat} {gs : Option (List Code)} {L : Addr} {m : PySem.Str → Option Value} {env : Env} {news : List (Addr × Obj)}
/-- a call of _law_asked from the law -/
theorem asked_call {T : PySem.Str} {tT : Tok} {rl : Addr} {kr : Nat} {vs : List Value} {rs : List (PySem.Str × PySem.Str)} {n : Nat} {res : Option (PySem.Str × List Nat × Int)} {Q : Value → Shared → Prop}
    (F : Fr h₀ L s.heap m) (B : Below ⟨none, d, some [], gs, u⟩ base [] h₀) (X : (hd.heap_39 w.params).In h₀) (N : News h₀ L s.heap news) (Tp : Top hd.view_39 (looseW hd.view_39 [Str.ofString "ENDS"]) mean mg mb h₀)
    (XB : (hd.heap_39 w.params).In base) (TB : Top hd.view_39 (looseW hd.view_39 [Str.ofString "ENDS"]) mean mg mb base) (hf : env.frame = some L) (hk : env.scope.kind = .function) (hdp : d + 51 ≤ 400) (hup : u + 203 ≤ 4000)
    (hT0 : T.length ≤ 100000) (hl : (rl, W.listOf vs.toArray kr) ∈ news) (hD : DatAll news vs (rs.map rowD)) (hlen : rs.length ≤ 1000) (hnd : (rs.map (·.1)).Nodup) (hres : readF n T (rs.map (·.1)) = some res)
    (hok : ∀ v news' h' tk, DatIn news' v (ansD T rs res) → Fr h₀ L h' m → News h₀ L h' (news' ++ news) → Q v { s with heap := h', toks := tk }) :
    wpAny (model PySem.Challenge.rw_xm0717_01.row.prog w) ((⟨none, d, some [], gs, u⟩ : Around).deeper env) (call (.ref 149) [.str T tT, .ref rl]) Q E s := by
  obtain ⟨S, Fg, hg⟩ := site_of (small := []) B F X N Tp hf hk (List.forall_mem_nil _)
  have hg' : ∀ p ∈ news, s.heap.get? p.1 = some p.2 := fun p hp => hg p hp List.not_mem_nil
  obtain ⟨kvs, hp, hr⟩ := rows_read (h₀ := h₀) (L := L) hg' (fun p hp => hp) rs hD
  obtain ⟨oL, es, ep, hL, hLd, hLk, hLf⟩ := Fg.ns
  have hfs : ([env].filterMap (·.frame)) = [L] := by simp [hf]
  have D : KtsDicts ([env].filterMap (·.frame)) (hideAll s.heap (([] : List (Addr × Obj)).map (·.1))) := by
    rw [hfs]
    intro b hb
    rw [List.mem_singleton.mp hb]
    exact ⟨oL, es, ep, hL, hLd⟩
  have hL0 : h₀.get? L = none := kts_self F
  refine wpAny_call (asked_site (n := n) (res := res) (rs := rs) S XB TB D hT0 (hg' _ hl) hp hr (by rw [hr.length]; exact hlen) (by rw [List.nil_append, hr.keys]; exact hnd) (by rw [hr.keys]; exact hres) (by omega) (by omega) fun v news' h' tk g' KT st new dat => ?_)
  rw [hfs] at KT
  obtain ⟨sl, hs⟩ := KT.up hL
  have kp : ∀ b o, h₀.get? b = some o → h'.get? b = some o := fun b o e => st _ _ (KT.other b o (Fg.keep b o e) fun z => by
    rw [List.mem_singleton.mp z, hL0] at e
    cases e)
  refine hok v news' h' tk dat ⟨⟨_, es, ep, st _ _ hs, hLd, hLk, hLf⟩, kp, F.above⟩ fun p hp => ?_
  rcases List.mem_append.mp hp with q | q
  · refine ⟨(new p q).1, fun z => ?_, ?_⟩
    · have := (new p q).2
      rw [z, hs] at this
      cases this
    · cases e : h₀.get? p.1 with
      | none => rfl
      | some o =>
        obtain ⟨sl', hs'⟩ := KT.up (Fg.keep _ _ e)
        have := (new p q).2
        rw [hs'] at this
        cases this
  · exact ⟨st _ _ (KT.other _ _ (hg' p q) fun z => (N p q).2.1 (List.mem_singleton.mp z)), (N p q).2⟩
end
section
variable {prog : Program} {w : World} {A : Around} {E : Value → Shared → Prop} {s : Shared} {h₀ : Heap} {L : Addr} {news : List (Addr × Obj)} {a b : Value} {da db : Dat} {Q : Value → Shared → Prop}
open Classical in
theorem dat_ne (N : News h₀ L s.heap news) (Da : DatIn news a da) (Db : DatIn news b db) (ha : kqdOk 8 da = true) (hb : kqdOk 8 db = true) (hu : A.units + 64 < cLine) (h : Q (.bool (!decide (da = db))) s) :
    wpAny (model prog w) A (compareOp .NotEq a b) Q E s := by
  obtain ⟨as, ra⟩ := kqd_in N 8 Da ha
  obtain ⟨bs, rb⟩ := kqd_in N 8 Db hb
  have la := kqd_lay 8 da ha
  have lb := kqd_lay 8 db hb
  have e : PyData.eqv (kqdP da) (kqdP db) = decide (da = db) := by
    have q := kqd_eqv 8 da db 8 ha hb
    by_cases hq : da = db
    · rw [decide_eq_true hq]; exact q.mpr hq
    · rw [decide_eq_false hq]; exact Bool.eq_false_iff.mpr fun x => hq (q.mp x)
  refine ne_dataH ra rb ?_ ?_ hu (by rw [e]; exact h)
  · unfold SeqAt.shaped; rw [la.1, Bool.true_and]; exact decide_eq_true (Nat.le_trans la.2 (by decide))
  · unfold SeqAt.shaped; rw [lb.1, Bool.true_and]; exact decide_eq_true (Nat.le_trans lb.2 (by decide))
end
end

section
open PySem PySem.W PySem.Calls PyProof.Rows PySem.Spec
set_option maxRecDepth 100000
set_option maxHeartbeats 4000000

theorem fill_take (w : World) : PySem.Challenge.rw_xm0717_01.prog = PySem.Challenge.rw_xm0717_01.prog ∧ hd.heap_39 w.params = hd.heap_39 w.params := by k_fill; exact ⟨rfl, rfl⟩


theorem fmod_lt (x : Int) : 0 ≤ x.fmod 2147483647 ∧ x.fmod 2147483647 < 2147483647 := ⟨Int.fmod_nonneg_of_pos _ (by decide), Int.fmod_lt_of_pos _ (by decide)⟩
theorem mul_ok {a b : Int} (ha : 0 ≤ a ∧ a < 2147483647) : IntMulOk a b := by
  refine IntMulOk.of_left ?_
  unfold Builtin.Int.intBits
  split
  · omega
  · rename_i h
    have h0 : a.natAbs ≠ 0 := fun z => h (by rw [Int.natAbs_eq_zero.mp z]; rfl)
    have := (Nat.log2_lt h0 (k := 31)).mpr (by have : (2 : Nat) ^ 31 = 2147483648 := by decide
                                               omega)
    omega
theorem take_ctr {src : Addr} {p q top : Int} {tp tq tt : Tok} {k : Nat} (hp : 0 ≤ p) (hq : 0 ≤ q) (hq2 : q < 2147483647) (h1 : 1 ≤ top) (h2 : top ≤ 1000) :
    Ctr 4 135 [.ref src, .int top tt] [(src, W.listOf #[.int p tp, .int q tq] k)]
      (fun _ v l => ∃ f t' p' q' tp' tq', v = .int f t' ∧ 0 ≤ f ∧ f < top ∧ 0 ≤ p' ∧ 0 ≤ q' ∧ q' < 2147483647 ∧ l = [(src, W.listOf #[.int p' tp', .int q' tq'] k)]) (fun _ => False) := by
  intro w mean mg mb d u gs base outer g s S hdp hup R hok her
  have hfill : PySem.Challenge.rw_xm0717_01.prog = PySem.Challenge.rw_xm0717_01.prog ∧ hd.heap_39 w.params = hd.heap_39 w.params := by k_fill; exact ⟨rfl, rfl⟩
  clear hfill
  have B := S.below
  have X := S.kin
  have T0 := S.top
  refine' enter (binds := [(PySem.Str.ofString "source", .ref src), (PySem.Str.ofString "top", .int top tt)]) S ?k6 ?k7 ?k8 ?k9 ?kB ?_ ?c2 ?c3 ?c4 ?c5; (case k6 => k_is); (case k7 => k_is); (case k8 => k_room); (case k9 => exact BindsTo.of_eq rfl); (case c5 => decide); (case kB => exact locs rfl); (case c2 => exact rfl); (case c3 => exact rfl); (case c4 => exact rfl)
  intro L' h₁ F N
  clear S
  show wpAny _ _ _ _ _ _
  k_fold
  repeat' (first | (k_unfold; (try dsimp only)) | (k_end; wrow_close) | (first | ((with_reducible show wpAny _ _ (binaryOp Operator.Mult (Value.int _ _) (Value.int _ _)) _ _ _); (k_here; refine mul_int ?_ (mul_ok (fmod_lt _)))) | ((with_reducible show wpAny _ _ (leaving _ (Value.ref _)) _ _ _); (k_here; (refine' leave_onSN ?k1 ?k2 ?k3 ?k4 ?_; (case k3 => assumption); (case k1 => assumption); (case k4 => assumption); (case k2 => assumption); k_whole; intro h' R' _ U'; (try dsimp only at R' U' ⊢)))) | ((with_reducible show wpAny _ _ (leaving _ (Value.ref _)) _ _ _); (k_here; (refine' leave_newE ?k1 ?k0 ?k2 ?k3 ?kf ?kk ?_; (case kf => exact rfl); (case kk => exact rfl); (case k0 => assumption); (case k1 => assumption); (case k2 => assumption); (case k3 => k_asm); k_whole; intro h' R' U'; (try dsimp only at R' U' ⊢)))) | (k_here; (with_reducible show wpAny _ _ (call (Value.ref 44) [Value.str _ _]) _ _ _); (refine' sheet_call ?kB ?kF ?kX ?kT ?kc ?kk ?kr ?_; (case kc => exact rfl); (case kk => exact rfl); (case kF => k_asm); (case kB => k_asm); (case kX => k_asm); (case kT => k_asm); (case kr => (try dsimp only); omega)); (intro h' e' tk' x'); (refine' raisable_of ?kF ?kX x' ?_; (case kF => k_asm); (case kX => k_asm))) | (k_here; (with_reducible show wpAny _ _ (exec (Stmt.Raise (some (Expr.Call (Expr.Name (PySem.Str.ofString "SheetFault") _) _ _ _)) none _) _) _ _ _); refine Raise_sheetW rfl ?_) | ((with_reducible show wpAny _ _ (subscriptTail _ _ (Value.str _ _) (Value.int _ _)) _ _ _); (refine item_str (fitsSsize_of (N := 9223372036854775808) (by omega) (by omega) (Int.le_refl _)) (by omega) (by omega) ?_; intro _)) | (k_here; (with_reducible show wpAny _ _ (call (Value.builtin "len") [Value.str _ _]) _ _ _); refine P.len_str (by omega) ?_) | walk1) | (dsimp only; (first | ((with_reducible show wpAny _ _ (binaryOp Operator.Mult (Value.int _ _) (Value.int _ _)) _ _ _); (k_here; refine mul_int ?_ (mul_ok (fmod_lt _)))) | ((with_reducible show wpAny _ _ (leaving _ (Value.ref _)) _ _ _); (k_here; (refine' leave_onSN ?k1 ?k2 ?k3 ?k4 ?_; (case k3 => assumption); (case k1 => assumption); (case k4 => assumption); (case k2 => assumption); k_whole; intro h' R' _ U'; (try dsimp only at R' U' ⊢)))) | ((with_reducible show wpAny _ _ (leaving _ (Value.ref _)) _ _ _); (k_here; (refine' leave_newE ?k1 ?k0 ?k2 ?k3 ?kf ?kk ?_; (case kf => exact rfl); (case kk => exact rfl); (case k0 => assumption); (case k1 => assumption); (case k2 => assumption); (case k3 => k_asm); k_whole; intro h' R' U'; (try dsimp only at R' U' ⊢)))) | (k_here; (with_reducible show wpAny _ _ (call (Value.ref 44) [Value.str _ _]) _ _ _); (refine' sheet_call ?kB ?kF ?kX ?kT ?kc ?kk ?kr ?_; (case kc => exact rfl); (case kk => exact rfl); (case kF => k_asm); (case kB => k_asm); (case kX => k_asm); (case kT => k_asm); (case kr => (try dsimp only); omega)); (intro h' e' tk' x'); (refine' raisable_of ?kF ?kX x' ?_; (case kF => k_asm); (case kX => k_asm))) | (k_here; (with_reducible show wpAny _ _ (exec (Stmt.Raise (some (Expr.Call (Expr.Name (PySem.Str.ofString "SheetFault") _) _ _ _)) none _) _) _ _ _); refine Raise_sheetW rfl ?_) | ((with_reducible show wpAny _ _ (subscriptTail _ _ (Value.str _ _) (Value.int _ _)) _ _ _); (refine item_str (fitsSsize_of (N := 9223372036854775808) (by omega) (by omega) (Int.le_refl _)) (by omega) (by omega) ?_; intro _)) | (k_here; (with_reducible show wpAny _ _ (call (Value.builtin "len") [Value.str _ _]) _ _ _); refine P.len_str (by omega) ?_) | walk1)) | (leave1; walk_say "STEP leave1"; try dsimp only) | fail "no step")
  all_goals (show R (.ok (.ret _)) _)
  all_goals (refine hok _ _ _ _ ⟨_, _, _, _, _, _, rfl, ?_, ?_, ?_, ?_, ?_, rfl⟩ (Fr.keep (by assumption)) (new_of (by assumption)))
  · exact Int.fmod_nonneg_of_pos _ (by omega)
  · exact Int.fmod_lt_of_pos _ (by omega)
  · exact Int.fdiv_nonneg hp (by omega)
  · exact hq
  · exact hq2
  · exact Int.fmod_nonneg_of_pos _ (by omega)
  · exact Int.fmod_lt_of_pos _ (by omega)
  · exact hp
  · exact (fmod_lt _).1
  · exact (fmod_lt _).2
end

section
open PySem PySem.W PySem.Calls PyProof.Rows PySem.Spec
set_option maxRecDepth 100000
set_option maxHeartbeats 4000000

theorem fill_one (w : World) : PySem.Challenge.rw_xm0717_01.prog = PySem.Challenge.rw_xm0717_01.prog ∧ hd.heap_39 w.params = hd.heap_39 w.params := by k_fill; exact ⟨rfl, rfl⟩


theorem kr2 {th src : Addr} {o1 o2 : Obj} (h : @Ne Nat th src) : ∀ p ∈ [(th, o2)], p.1 ∉ [(src, o1)].map (·.1) := by
  intro p hp z
  rw [List.mem_singleton.mp hp] at z
  simp only [List.map_cons, List.map_nil, List.mem_cons, List.not_mem_nil, or_false] at z
  exact h z
theorem one_ctr {src th : Addr} {p q : Int} {tp tq : Tok} {k kt : Nat} {vs : List Value} (hne : @Ne Nat th src) (hp : 0 ≤ p) (hq : 0 ≤ q) (hq2 : q < 2147483647) (h1 : 1 ≤ vs.length) (h2 : vs.length ≤ 1000) :
    Ctr 8 142 [.ref src, .ref th] [(src, W.listOf #[.int p tp, .int q tq] k), (th, W.listOf vs.toArray kt)]
      (fun _ v l => v ∈ vs ∧ ∃ p' q' tp' tq', 0 ≤ p' ∧ 0 ≤ q' ∧ q' < 2147483647 ∧ l = [(src, W.listOf #[.int p' tp', .int q' tq'] k), (th, W.listOf vs.toArray kt)]) (fun _ => False) := by
  intro w mean mg mb d u gs base outer g s S hdp hup R hok her
  have hfill : PySem.Challenge.rw_xm0717_01.prog = PySem.Challenge.rw_xm0717_01.prog ∧ hd.heap_39 w.params = hd.heap_39 w.params := by k_fill; exact ⟨rfl, rfl⟩
  clear hfill
  have B := S.below
  have X := S.kin
  have T0 := S.top
  refine' enter (binds := [(PySem.Str.ofString "source", .ref src), (PySem.Str.ofString "things", .ref th)]) S ?k6 ?k7 ?k8 ?k9 ?kB ?_ ?c2 ?c3 ?c4 ?c5; (case k6 => k_is); (case k7 => k_is); (case k8 => k_room); (case k9 => exact BindsTo.of_eq rfl); (case c5 => decide); (case kB => exact locs rfl); (case c2 => exact rfl); (case c3 => exact rfl); (case c4 => exact rfl)
  intro L' h₁ F N
  clear S
  show wpAny _ _ _ _ _ _
  k_fold
  repeat' (first | (k_unfold; (try dsimp only)) | (k_end; wrow_close) | (first | ((with_reducible show wpAny _ _ (leaving _ (Value.ref _)) _ _ _); (k_here; (refine' leave_onSN ?k1 ?k2 ?k3 ?k4 ?_; (case k3 => assumption); (case k1 => assumption); (case k4 => assumption); (case k2 => assumption); k_whole; intro h' R' _ U'; (try dsimp only at R' U' ⊢)))) | ((with_reducible show wpAny _ _ (leaving _ (Value.ref _)) _ _ _); (k_here; (refine' leave_newE ?k1 ?k0 ?k2 ?k3 ?kf ?kk ?_; (case kf => exact rfl); (case kk => exact rfl); (case k0 => assumption); (case k1 => assumption); (case k2 => assumption); (case k3 => k_asm); k_whole; intro h' R' U'; (try dsimp only at R' U' ⊢)))) | (k_here; (with_reducible show wpAny _ _ (call (Value.ref 44) [Value.str _ _]) _ _ _); (refine' sheet_call ?kB ?kF ?kX ?kT ?kc ?kk ?kr ?_; (case kc => exact rfl); (case kk => exact rfl); (case kF => k_asm); (case kB => k_asm); (case kX => k_asm); (case kT => k_asm); (case kr => (try dsimp only); omega)); (intro h' e' tk' x'); (refine' raisable_of ?kF ?kX x' ?_; (case kF => k_asm); (case kX => k_asm))) | (k_here; (with_reducible show wpAny _ _ (exec (Stmt.Raise (some (Expr.Call (Expr.Name (PySem.Str.ofString "SheetFault") _) _ _ _)) none _) _) _ _ _); refine Raise_sheetW rfl ?_) | ((with_reducible show wpAny _ _ (subscriptTail _ _ (Value.str _ _) (Value.int _ _)) _ _ _); (refine item_str (fitsSsize_of (N := 9223372036854775808) (by omega) (by omega) (Int.le_refl _)) (by omega) (by omega) ?_; intro _)) | (k_here; (with_reducible show wpAny _ _ (call (Value.builtin "len") [Value.str _ _]) _ _ _); refine P.len_str (by omega) ?_) | walk1) | (dsimp only; (first | ((with_reducible show wpAny _ _ (leaving _ (Value.ref _)) _ _ _); (k_here; (refine' leave_onSN ?k1 ?k2 ?k3 ?k4 ?_; (case k3 => assumption); (case k1 => assumption); (case k4 => assumption); (case k2 => assumption); k_whole; intro h' R' _ U'; (try dsimp only at R' U' ⊢)))) | ((with_reducible show wpAny _ _ (leaving _ (Value.ref _)) _ _ _); (k_here; (refine' leave_newE ?k1 ?k0 ?k2 ?k3 ?kf ?kk ?_; (case kf => exact rfl); (case kk => exact rfl); (case k0 => assumption); (case k1 => assumption); (case k2 => assumption); (case k3 => k_asm); k_whole; intro h' R' U'; (try dsimp only at R' U' ⊢)))) | (k_here; (with_reducible show wpAny _ _ (call (Value.ref 44) [Value.str _ _]) _ _ _); (refine' sheet_call ?kB ?kF ?kX ?kT ?kc ?kk ?kr ?_; (case kc => exact rfl); (case kk => exact rfl); (case kF => k_asm); (case kB => k_asm); (case kX => k_asm); (case kT => k_asm); (case kr => (try dsimp only); omega)); (intro h' e' tk' x'); (refine' raisable_of ?kF ?kX x' ?_; (case kF => k_asm); (case kX => k_asm))) | (k_here; (with_reducible show wpAny _ _ (exec (Stmt.Raise (some (Expr.Call (Expr.Name (PySem.Str.ofString "SheetFault") _) _ _ _)) none _) _) _ _ _); refine Raise_sheetW rfl ?_) | ((with_reducible show wpAny _ _ (subscriptTail _ _ (Value.str _ _) (Value.int _ _)) _ _ _); (refine item_str (fitsSsize_of (N := 9223372036854775808) (by omega) (by omega) (Int.le_refl _)) (by omega) (by omega) ?_; intro _)) | (k_here; (with_reducible show wpAny _ _ (call (Value.builtin "len") [Value.str _ _]) _ _ _); refine P.len_str (by omega) ?_) | walk1)) | (leave1; walk_say "STEP leave1"; try dsimp only) | fail "no step")
  refine PyProof.Rows.len_list (items := vs.toArray) ⟨_, (N _ (List.mem_cons_of_mem _ (List.mem_cons_self ..))).1, rfl, kt, rfl⟩ (by simp only [List.size_toArray]; omega) ?_
  show wpAny _ _ _ _ _ _
  repeat' (fail_if_success (with_reducible show wpAny _ _ (call (Value.ref 135) _ _) _ _ _)); (first | (k_unfold; (try dsimp only)) | (k_end; wrow_close) | (first | ((with_reducible show wpAny _ _ (leaving _ (Value.ref _)) _ _ _); (k_here; (refine' leave_onSN ?k1 ?k2 ?k3 ?k4 ?_; (case k3 => assumption); (case k1 => assumption); (case k4 => assumption); (case k2 => assumption); k_whole; intro h' R' _ U'; (try dsimp only at R' U' ⊢)))) | ((with_reducible show wpAny _ _ (leaving _ (Value.ref _)) _ _ _); (k_here; (refine' leave_newE ?k1 ?k0 ?k2 ?k3 ?kf ?kk ?_; (case kf => exact rfl); (case kk => exact rfl); (case k0 => assumption); (case k1 => assumption); (case k2 => assumption); (case k3 => k_asm); k_whole; intro h' R' U'; (try dsimp only at R' U' ⊢)))) | (k_here; (with_reducible show wpAny _ _ (call (Value.ref 44) [Value.str _ _]) _ _ _); (refine' sheet_call ?kB ?kF ?kX ?kT ?kc ?kk ?kr ?_; (case kc => exact rfl); (case kk => exact rfl); (case kF => k_asm); (case kB => k_asm); (case kX => k_asm); (case kT => k_asm); (case kr => (try dsimp only); omega)); (intro h' e' tk' x'); (refine' raisable_of ?kF ?kX x' ?_; (case kF => k_asm); (case kX => k_asm))) | (k_here; (with_reducible show wpAny _ _ (exec (Stmt.Raise (some (Expr.Call (Expr.Name (PySem.Str.ofString "SheetFault") _) _ _ _)) none _) _) _ _ _); refine Raise_sheetW rfl ?_) | ((with_reducible show wpAny _ _ (subscriptTail _ _ (Value.str _ _) (Value.int _ _)) _ _ _); (refine item_str (fitsSsize_of (N := 9223372036854775808) (by omega) (by omega) (Int.le_refl _)) (by omega) (by omega) ?_; intro _)) | (k_here; (with_reducible show wpAny _ _ (call (Value.builtin "len") [Value.str _ _]) _ _ _); refine P.len_str (by omega) ?_) | walk1) | (dsimp only; (first | ((with_reducible show wpAny _ _ (leaving _ (Value.ref _)) _ _ _); (k_here; (refine' leave_onSN ?k1 ?k2 ?k3 ?k4 ?_; (case k3 => assumption); (case k1 => assumption); (case k4 => assumption); (case k2 => assumption); k_whole; intro h' R' _ U'; (try dsimp only at R' U' ⊢)))) | ((with_reducible show wpAny _ _ (leaving _ (Value.ref _)) _ _ _); (k_here; (refine' leave_newE ?k1 ?k0 ?k2 ?k3 ?kf ?kk ?_; (case kf => exact rfl); (case kk => exact rfl); (case k0 => assumption); (case k1 => assumption); (case k2 => assumption); (case k3 => k_asm); k_whole; intro h' R' U'; (try dsimp only at R' U' ⊢)))) | (k_here; (with_reducible show wpAny _ _ (call (Value.ref 44) [Value.str _ _]) _ _ _); (refine' sheet_call ?kB ?kF ?kX ?kT ?kc ?kk ?kr ?_; (case kc => exact rfl); (case kk => exact rfl); (case kF => k_asm); (case kB => k_asm); (case kX => k_asm); (case kT => k_asm); (case kr => (try dsimp only); omega)); (intro h' e' tk' x'); (refine' raisable_of ?kF ?kX x' ?_; (case kF => k_asm); (case kX => k_asm))) | (k_here; (with_reducible show wpAny _ _ (exec (Stmt.Raise (some (Expr.Call (Expr.Name (PySem.Str.ofString "SheetFault") _) _ _ _)) none _) _) _ _ _); refine Raise_sheetW rfl ?_) | ((with_reducible show wpAny _ _ (subscriptTail _ _ (Value.str _ _) (Value.int _ _)) _ _ _); (refine item_str (fitsSsize_of (N := 9223372036854775808) (by omega) (by omega) (Int.le_refl _)) (by omega) (by omega) ?_; intro _)) | (k_here; (with_reducible show wpAny _ _ (call (Value.builtin "len") [Value.str _ _]) _ _ _); refine P.len_str (by omega) ?_) | walk1)) | fail "no step")
  (refine' call_ctrS (take_ctr ?hp ?hq ?hq2 ?h1 ?h2 _) ?kF ?kB ?kX ?kN ?kT ?kf ?kk ?kd ?ku ?kr ?ok9 ?er9); (case kf => exact rfl); (case kk => exact rfl); (case kN => k_asm); (case kF => k_asm); (case kB => k_asm); (case kX => k_asm); (case kT => k_asm); (case kd => omega); (case ku => omega); (case hp => assumption); (case hq => assumption); (case hq2 => assumption); (case h1 => (simp only [List.size_toArray]; omega)); (case h2 => (simp only [List.size_toArray]; omega)); (case kr => exact kr2 (by assumption)); (case' er9 => (intro e9 small9 h9 tk9 g9 er9 Fg9 R9 U9; exact er9.elim)); (case' ok9 => (intro v9 small9 h9 tk9 ok9 lt9 F9 N9; clear lt9; obtain ⟨f9, tf9, p9, q9, tp9, tq9, e6, b1, b2, b3, b4, b5, e7⟩ := ok9; subst e6; subst e7; (simp only [List.cons_append, List.nil_append] at N9)))
  repeat' (first | (k_unfold; (try dsimp only)) | (k_end; wrow_close) | (first | ((with_reducible show wpAny _ _ (leaving _ (Value.ref _)) _ _ _); (k_here; (refine' leave_onSN ?k1 ?k2 ?k3 ?k4 ?_; (case k3 => assumption); (case k1 => assumption); (case k4 => assumption); (case k2 => assumption); k_whole; intro h' R' _ U'; (try dsimp only at R' U' ⊢)))) | ((with_reducible show wpAny _ _ (leaving _ (Value.ref _)) _ _ _); (k_here; (refine' leave_newE ?k1 ?k0 ?k2 ?k3 ?kf ?kk ?_; (case kf => exact rfl); (case kk => exact rfl); (case k0 => assumption); (case k1 => assumption); (case k2 => assumption); (case k3 => k_asm); k_whole; intro h' R' U'; (try dsimp only at R' U' ⊢)))) | (k_here; (with_reducible show wpAny _ _ (call (Value.ref 44) [Value.str _ _]) _ _ _); (refine' sheet_call ?kB ?kF ?kX ?kT ?kc ?kk ?kr ?_; (case kc => exact rfl); (case kk => exact rfl); (case kF => k_asm); (case kB => k_asm); (case kX => k_asm); (case kT => k_asm); (case kr => (try dsimp only); omega)); (intro h' e' tk' x'); (refine' raisable_of ?kF ?kX x' ?_; (case kF => k_asm); (case kX => k_asm))) | (k_here; (with_reducible show wpAny _ _ (exec (Stmt.Raise (some (Expr.Call (Expr.Name (PySem.Str.ofString "SheetFault") _) _ _ _)) none _) _) _ _ _); refine Raise_sheetW rfl ?_) | ((with_reducible show wpAny _ _ (subscriptTail _ _ (Value.str _ _) (Value.int _ _)) _ _ _); (refine item_str (fitsSsize_of (N := 9223372036854775808) (by omega) (by omega) (Int.le_refl _)) (by omega) (by omega) ?_; intro _)) | (k_here; (with_reducible show wpAny _ _ (call (Value.builtin "len") [Value.str _ _]) _ _ _); refine P.len_str (by omega) ?_) | walk1) | (dsimp only; (first | ((with_reducible show wpAny _ _ (leaving _ (Value.ref _)) _ _ _); (k_here; (refine' leave_onSN ?k1 ?k2 ?k3 ?k4 ?_; (case k3 => assumption); (case k1 => assumption); (case k4 => assumption); (case k2 => assumption); k_whole; intro h' R' _ U'; (try dsimp only at R' U' ⊢)))) | ((with_reducible show wpAny _ _ (leaving _ (Value.ref _)) _ _ _); (k_here; (refine' leave_newE ?k1 ?k0 ?k2 ?k3 ?kf ?kk ?_; (case kf => exact rfl); (case kk => exact rfl); (case k0 => assumption); (case k1 => assumption); (case k2 => assumption); (case k3 => k_asm); k_whole; intro h' R' U'; (try dsimp only at R' U' ⊢)))) | (k_here; (with_reducible show wpAny _ _ (call (Value.ref 44) [Value.str _ _]) _ _ _); (refine' sheet_call ?kB ?kF ?kX ?kT ?kc ?kk ?kr ?_; (case kc => exact rfl); (case kk => exact rfl); (case kF => k_asm); (case kB => k_asm); (case kX => k_asm); (case kT => k_asm); (case kr => (try dsimp only); omega)); (intro h' e' tk' x'); (refine' raisable_of ?kF ?kX x' ?_; (case kF => k_asm); (case kX => k_asm))) | (k_here; (with_reducible show wpAny _ _ (exec (Stmt.Raise (some (Expr.Call (Expr.Name (PySem.Str.ofString "SheetFault") _) _ _ _)) none _) _) _ _ _); refine Raise_sheetW rfl ?_) | ((with_reducible show wpAny _ _ (subscriptTail _ _ (Value.str _ _) (Value.int _ _)) _ _ _); (refine item_str (fitsSsize_of (N := 9223372036854775808) (by omega) (by omega) (Int.le_refl _)) (by omega) (by omega) ?_; intro _)) | (k_here; (with_reducible show wpAny _ _ (call (Value.builtin "len") [Value.str _ _]) _ _ _); refine P.len_str (by omega) ?_) | walk1)) | (leave1; walk_say "STEP leave1"; try dsimp only) | fail "no step")
  have hv : f9.toNat < vs.length := by simp only [List.size_toArray] at b2; omega
  refine item_listR (items := vs.toArray) ⟨_, (N9 _ (List.mem_cons_of_mem _ (List.mem_cons_self ..))).1, rfl, kt, rfl⟩ b1 (by simp only [List.size_toArray] at b2; omega) (by rw [List.getElem?_toArray]; exact List.getElem?_eq_getElem hv) ?_
  show R (.ok (.ret _)) _
  exact hok _ _ _ _ ⟨List.getElem_mem hv, _, _, _, _, b3, b4, b5, rfl⟩ (Fr.keep (by assumption)) (new_of (by assumption))

section
variable {w : World} {mean : ExcName → Option Value} {mg mb : PySem.Str → Option Value} {E : Value → Shared → Prop} {s : Shared} {base h₀ : Heap} {outer : List Env} {d u : Nat} {gs : Option (List Code)} {L : Addr} {m : PySem.Str → Option Value} {env : Env} {news rest : List (Addr × Obj)} {Q : Value → Shared → Prop}
  {src th : Addr} {p q : Int} {tp tq : Tok} {k kt : Nat} {vs : List Value}
/-- a call of _law_one, anywhere: of the ledger, rest is kept -/
theorem one_call (F : Fr h₀ L s.heap m) (B : Below ⟨none, d, some outer, gs, u⟩ base outer h₀) (X : (hd.heap_39 w.params).In h₀) (N : News h₀ L s.heap news) (T : Top hd.view_39 (looseW hd.view_39 [Str.ofString "ENDS"]) mean mg mb h₀)
    (hf : env.frame = some L) (hk : env.scope.kind = .function) (hdp : d + 9 ≤ 400) (hup : u + 35 ≤ 4000)
    (hs : (src, W.listOf #[.int p tp, .int q tq] k) ∈ news) (ht : (th, W.listOf vs.toArray kt) ∈ news) (hne : @Ne Nat th src) (hp : 0 ≤ p) (hq : 0 ≤ q) (hq2 : q < 2147483647) (h1 : 1 ≤ vs.length) (h2 : vs.length ≤ 1000)
    (hr : ∀ r ∈ rest, r ∈ news ∧ @Ne Nat r.1 src ∧ @Ne Nat r.1 th)
    (hok : ∀ v p' q' tp' tq' h' tk, v ∈ vs → 0 ≤ p' → 0 ≤ q' → q' < 2147483647 → Fr h₀ L h' m → News h₀ L h' ((src, W.listOf #[.int p' tp', .int q' tq'] k) :: (th, W.listOf vs.toArray kt) :: rest) → Q v { s with heap := h', toks := tk }) :
    wpAny (model PySem.Challenge.rw_xm0717_01.row.prog w) ((⟨none, d, some outer, gs, u⟩ : Around).deeper env) (call (.ref 142) [.ref src, .ref th]) Q E s := by
  refine call_ctr rest (one_ctr (tp := tp) (tq := tq) (k := k) (kt := kt) hne hp hq hq2 h1 h2 w) F B X N T hf hk (by omega) (by omega) (fun r hr' => ?_) (fun r hr' => ⟨(hr r hr').1, fun z => ?_⟩) (fun v small h' tk ok _ F' N' => ?_) (fun e small h' tk g er => er.elim)
  · simp only [List.mem_cons, List.not_mem_nil, or_false] at hr'
    rcases hr' with e | e <;> rw [e] <;> assumption
  · simp only [List.map_cons, List.map_nil, List.mem_cons, List.not_mem_nil, or_false] at z
    rcases z with z | z
    · exact (hr r hr').2.1 z
    · exact (hr r hr').2.2 z
  · obtain ⟨hv, p', q', tp', tq', b1, b2, b3, rfl⟩ := ok
    exact hok v p' q' tp' tq' h' tk hv b1 b2 b3 F' N'
theorem take_call {top : Int} {tt : Tok} (F : Fr h₀ L s.heap m) (B : Below ⟨none, d, some outer, gs, u⟩ base outer h₀) (X : (hd.heap_39 w.params).In h₀) (N : News h₀ L s.heap news) (T : Top hd.view_39 (looseW hd.view_39 [Str.ofString "ENDS"]) mean mg mb h₀)
    (hf : env.frame = some L) (hk : env.scope.kind = .function) (hdp : d + 5 ≤ 400) (hup : u + 19 ≤ 4000)
    (hs : (src, W.listOf #[.int p tp, .int q tq] k) ∈ news) (hp : 0 ≤ p) (hq : 0 ≤ q) (hq2 : q < 2147483647) (h1 : 1 ≤ top) (h2 : top ≤ 1000)
    (hr : ∀ r ∈ rest, r ∈ news ∧ @Ne Nat r.1 src)
    (hok : ∀ f tf p' q' tp' tq' h' tk, 0 ≤ f → f < top → 0 ≤ p' → 0 ≤ q' → q' < 2147483647 → Fr h₀ L h' m → News h₀ L h' ((src, W.listOf #[.int p' tp', .int q' tq'] k) :: rest) → Q (.int f tf) { s with heap := h', toks := tk }) :
    wpAny (model PySem.Challenge.rw_xm0717_01.row.prog w) ((⟨none, d, some outer, gs, u⟩ : Around).deeper env) (call (.ref 135) [.ref src, .int top tt]) Q E s := by
  refine call_ctr rest (take_ctr (tp := tp) (tq := tq) (k := k) hp hq hq2 h1 h2 w) F B X N T hf hk (by omega) (by omega) (fun r hr' => ?_) (fun r hr' => ⟨(hr r hr').1, fun z => ?_⟩) (fun v small h' tk ok _ F' N' => ?_) (fun e small h' tk g er => er.elim)
  · rw [List.mem_singleton.mp hr']; assumption
  · simp only [List.map_cons, List.map_nil, List.mem_cons, List.not_mem_nil, or_false] at z
    exact (hr r hr').2 z
  · obtain ⟨f, tf, p', q', tp', tq', rfl, a1, a2, b1, b2, b3, rfl⟩ := ok
    exact hok f tf p' q' tp' tq' h' tk a1 a2 b1 b2 b3 F' N'
end

/-- the blanks beside the sign -/
def blankL : List PySem.Str := [PySem.Str.ofString "", PySem.Str.ofString "", PySem.Str.ofString " ", PySem.Str.ofString "\n", PySem.Str.ofString "\t\x0d"]
theorem blanks_ctr {src : Addr} {p q : Int} {tp tq : Tok} {k : Nat} (hp : 0 ≤ p) (hq : 0 ≤ q) (hq2 : q < 2147483647) :
    Ctr 12 156 [.ref src] [(src, W.listOf #[.int p tp, .int q tq] k)]
      (fun _ v l => ∃ x t' p' q' tp' tq', v = .str x t' ∧ x ∈ blankL ∧ 0 ≤ p' ∧ 0 ≤ q' ∧ q' < 2147483647 ∧ l = [(src, W.listOf #[.int p' tp', .int q' tq'] k)]) (fun _ => False) := by
  intro w mean mg mb d u gs base outer g s S hdp hup R hok her
  have hfill : PySem.Challenge.rw_xm0717_01.prog = PySem.Challenge.rw_xm0717_01.prog ∧ hd.heap_39 w.params = hd.heap_39 w.params := by k_fill; exact ⟨rfl, rfl⟩
  clear hfill
  have B := S.below
  have X := S.kin
  have T0 := S.top
  refine' enter (binds := [(PySem.Str.ofString "source", .ref src)]) S ?k6 ?k7 ?k8 ?k9 ?kB ?_ ?c2 ?c3 ?c4 ?c5; (case k6 => k_is); (case k7 => k_is); (case k8 => k_room); (case k9 => exact BindsTo.of_eq rfl); (case c5 => decide); (case kB => exact locs rfl); (case c2 => exact rfl); (case c3 => exact rfl); (case c4 => exact rfl)
  intro L' h₁ F N
  clear S
  show wpAny _ _ _ _ _ _
  k_fold
  repeat' (fail_if_success (with_reducible show wpAny _ _ (call (Value.ref 142) _ _) _ _ _)); (first | (k_unfold; (try dsimp only)) | (k_end; wrow_close) | (first | ((with_reducible show wpAny _ _ (leaving _ (Value.ref _)) _ _ _); (k_here; (refine' leave_onSN ?k1 ?k2 ?k3 ?k4 ?_; (case k3 => assumption); (case k1 => assumption); (case k4 => assumption); (case k2 => assumption); k_whole; intro h' R' _ U'; (try dsimp only at R' U' ⊢)))) | ((with_reducible show wpAny _ _ (leaving _ (Value.ref _)) _ _ _); (k_here; (refine' leave_newE ?k1 ?k0 ?k2 ?k3 ?kf ?kk ?_; (case kf => exact rfl); (case kk => exact rfl); (case k0 => assumption); (case k1 => assumption); (case k2 => assumption); (case k3 => k_asm); k_whole; intro h' R' U'; (try dsimp only at R' U' ⊢)))) | (k_here; (with_reducible show wpAny _ _ (call (Value.ref 44) [Value.str _ _]) _ _ _); (refine' sheet_call ?kB ?kF ?kX ?kT ?kc ?kk ?kr ?_; (case kc => exact rfl); (case kk => exact rfl); (case kF => k_asm); (case kB => k_asm); (case kX => k_asm); (case kT => k_asm); (case kr => (try dsimp only); omega)); (intro h' e' tk' x'); (refine' raisable_of ?kF ?kX x' ?_; (case kF => k_asm); (case kX => k_asm))) | (k_here; (with_reducible show wpAny _ _ (exec (Stmt.Raise (some (Expr.Call (Expr.Name (PySem.Str.ofString "SheetFault") _) _ _ _)) none _) _) _ _ _); refine Raise_sheetW rfl ?_) | ((with_reducible show wpAny _ _ (subscriptTail _ _ (Value.str _ _) (Value.int _ _)) _ _ _); (refine item_str (fitsSsize_of (N := 9223372036854775808) (by omega) (by omega) (Int.le_refl _)) (by omega) (by omega) ?_; intro _)) | (k_here; (with_reducible show wpAny _ _ (call (Value.builtin "len") [Value.str _ _]) _ _ _); refine P.len_str (by omega) ?_) | walk1) | (dsimp only; (first | ((with_reducible show wpAny _ _ (leaving _ (Value.ref _)) _ _ _); (k_here; (refine' leave_onSN ?k1 ?k2 ?k3 ?k4 ?_; (case k3 => assumption); (case k1 => assumption); (case k4 => assumption); (case k2 => assumption); k_whole; intro h' R' _ U'; (try dsimp only at R' U' ⊢)))) | ((with_reducible show wpAny _ _ (leaving _ (Value.ref _)) _ _ _); (k_here; (refine' leave_newE ?k1 ?k0 ?k2 ?k3 ?kf ?kk ?_; (case kf => exact rfl); (case kk => exact rfl); (case k0 => assumption); (case k1 => assumption); (case k2 => assumption); (case k3 => k_asm); k_whole; intro h' R' U'; (try dsimp only at R' U' ⊢)))) | (k_here; (with_reducible show wpAny _ _ (call (Value.ref 44) [Value.str _ _]) _ _ _); (refine' sheet_call ?kB ?kF ?kX ?kT ?kc ?kk ?kr ?_; (case kc => exact rfl); (case kk => exact rfl); (case kF => k_asm); (case kB => k_asm); (case kX => k_asm); (case kT => k_asm); (case kr => (try dsimp only); omega)); (intro h' e' tk' x'); (refine' raisable_of ?kF ?kX x' ?_; (case kF => k_asm); (case kX => k_asm))) | (k_here; (with_reducible show wpAny _ _ (exec (Stmt.Raise (some (Expr.Call (Expr.Name (PySem.Str.ofString "SheetFault") _) _ _ _)) none _) _) _ _ _); refine Raise_sheetW rfl ?_) | ((with_reducible show wpAny _ _ (subscriptTail _ _ (Value.str _ _) (Value.int _ _)) _ _ _); (refine item_str (fitsSsize_of (N := 9223372036854775808) (by omega) (by omega) (Int.le_refl _)) (by omega) (by omega) ?_; intro _)) | (k_here; (with_reducible show wpAny _ _ (call (Value.builtin "len") [Value.str _ _]) _ _ _); refine P.len_str (by omega) ?_) | walk1)) | fail "no step")
  refine' one_call (rest := []) ?kF ?kB ?kX ?kN ?kT rfl rfl (by omega) (by omega) (List.mem_cons_of_mem _ (List.mem_cons_self ..)) (List.mem_cons_self ..) ?hn hp hq hq2 ?h1 ?h2 (List.forall_mem_nil _) ?_; (case kF => k_asm); (case kB => k_asm); (case kX => k_asm); (case kN => k_asm); (case kT => k_asm); (case hn => exact Nat.ne_of_gt (by assumption)); (case h1 => exact Nat.le_of_ble_eq_true rfl); (case h2 => exact Nat.le_of_ble_eq_true rfl)
  intro v p' q' tp' tq' h' tk hv b1 b2 b3 F' N'
  show R (.ok (.ret _)) _
  have hx : ∃ x t', v = .str x t' ∧ x ∈ blankL := by
    simp only [List.mem_cons, List.not_mem_nil, or_false] at hv
    rcases hv with rfl | rfl | rfl | rfl | rfl <;> exact ⟨_, _, rfl, by simp [blankL]⟩
  obtain ⟨x, t', rfl, hx⟩ := hx
  exact hok _ _ _ _ ⟨x, t', p', q', tp', tq', rfl, hx, b1, b2, b3, rfl⟩ F'.keep (new_of fun r hr => N' r (by rw [List.mem_singleton.mp hr]; exact List.mem_cons_self ..))

section
variable {w : World} {mean : ExcName → Option Value} {mg mb : PySem.Str → Option Value} {E : Value → Shared → Prop} {s : Shared} {base h₀ : Heap} {outer : List Env} {d u : Nat} {gs : Option (List Code)} {L : Addr} {m : PySem.Str → Option Value} {env : Env} {news rest : List (Addr × Obj)} {Q : Value → Shared → Prop}
  {src th : Addr} {p q : Int} {tp tq : Tok} {k kt : Nat} {vs : List Value}
theorem blanks_call (F : Fr h₀ L s.heap m) (B : Below ⟨none, d, some outer, gs, u⟩ base outer h₀) (X : (hd.heap_39 w.params).In h₀) (N : News h₀ L s.heap news) (T : Top hd.view_39 (looseW hd.view_39 [Str.ofString "ENDS"]) mean mg mb h₀)
    (hf : env.frame = some L) (hk : env.scope.kind = .function) (hdp : d + 13 ≤ 400) (hup : u + 51 ≤ 4000)
    (hs : (src, W.listOf #[.int p tp, .int q tq] k) ∈ news) (hp : 0 ≤ p) (hq : 0 ≤ q) (hq2 : q < 2147483647)
    (hr : ∀ r ∈ rest, r ∈ news ∧ @Ne Nat r.1 src)
    (hok : ∀ x tx p' q' tp' tq' h' tk, x ∈ blankL → 0 ≤ p' → 0 ≤ q' → q' < 2147483647 → Fr h₀ L h' m → News h₀ L h' ((src, W.listOf #[.int p' tp', .int q' tq'] k) :: rest) → Q (.str x tx) { s with heap := h', toks := tk }) :
    wpAny (model PySem.Challenge.rw_xm0717_01.row.prog w) ((⟨none, d, some outer, gs, u⟩ : Around).deeper env) (call (.ref 156) [.ref src]) Q E s := by
  refine call_ctr rest (blanks_ctr (tp := tp) (tq := tq) (k := k) hp hq hq2 w) F B X N T hf hk (by omega) (by omega) (fun r hr' => ?_) (fun r hr' => ⟨(hr r hr').1, fun z => ?_⟩) (fun v small h' tk ok _ F' N' => ?_) (fun e small h' tk g er => er.elim)
  · rw [List.mem_singleton.mp hr']; assumption
  · simp only [List.map_cons, List.map_nil, List.mem_cons, List.not_mem_nil, or_false] at z
    exact (hr r hr').2 z
  · obtain ⟨x, tx, p', q', tp', tq', rfl, a1, b1, b2, b3, rfl⟩ := ok
    exact hok x tx p' q' tp' tq' h' tk a1 b1 b2 b3 F' N'
end
end

section
open PySem PySem.W PySem.Calls PyProof.Rows PySem.Spec
set_option maxRecDepth 100000
set_option maxHeartbeats 4000000

section
variable {w : World} {mean : ExcName → Option Value} {mg mb : PySem.Str → Option Value} {E : Value → Shared → Prop} {s : Shared} {base h₀ : Heap} {outer : List Env} {d u : Nat} {gs : Option (List Code)} {L : Addr} {m : PySem.Str → Option Value} {env : Env} {news : List (Addr × Obj)} {Q : Value → Shared → Prop}
  {src th : Addr} {p q : Int} {tp tq : Tok} {k kt : Nat} {vs : List Value} {U : Obj → List (Addr × Obj)}
theorem take_callU {top : Int} {tt : Tok} (F : Fr h₀ L s.heap m) (B : Below ⟨none, d, some outer, gs, u⟩ base outer h₀) (X : (hd.heap_39 w.params).In h₀) (N : News h₀ L s.heap news) (T : Top hd.view_39 (looseW hd.view_39 [Str.ofString "ENDS"]) mean mg mb h₀)
    (hf : env.frame = some L) (hk : env.scope.kind = .function) (hdp : d + 5 ≤ 400) (hup : u + 19 ≤ 4000)
    (hU : UpdF src (W.listOf #[.int p tp, .int q tq] k) news U) (hp : 0 ≤ p) (hq : 0 ≤ q) (hq2 : q < 2147483647) (h1 : 1 ≤ top) (h2 : top ≤ 1000)
    (hok : ∀ f tf p' q' tp' tq' h' tk, 0 ≤ f → f < top → 0 ≤ p' → 0 ≤ q' → q' < 2147483647 → Fr h₀ L h' m → News h₀ L h' (U (W.listOf #[.int p' tp', .int q' tq'] k)) → Q (.int f tf) { s with heap := h', toks := tk }) :
    wpAny (model PySem.Challenge.rw_xm0717_01.row.prog w) ((⟨none, d, some outer, gs, u⟩ : Around).deeper env) (call (.ref 135) [.ref src, .int top tt]) Q E s := by
  obtain ⟨pre, post, rfl, hg, a, b⟩ := hU.split
  refine take_call (rest := pre ++ post) F B X N T hf hk hdp hup (List.mem_append_right _ (List.mem_cons_self ..)) hp hq hq2 h1 h2 (fun r hr => ?_) fun f tf p' q' tp' tq' h' tk c1 c2 c3 c4 c5 F' N' => hok f tf p' q' tp' tq' h' tk c1 c2 c3 c4 c5 F' ?_
  · rcases List.mem_append.mp hr with z | z
    · exact ⟨List.mem_append_left _ z, a r z⟩
    · exact ⟨List.mem_append_right _ (List.mem_cons_of_mem _ z), b r z⟩
  · rw [hg]
    intro r hr
    refine N' r ?_
    rcases List.mem_append.mp hr with z | z
    · exact List.mem_cons_of_mem _ (List.mem_append_left _ z)
    · rcases List.mem_cons.mp z with e | z
      · rw [e]; exact List.mem_cons_self ..
      · exact List.mem_cons_of_mem _ (List.mem_append_right _ z)
theorem one_callU (F : Fr h₀ L s.heap m) (B : Below ⟨none, d, some outer, gs, u⟩ base outer h₀) (X : (hd.heap_39 w.params).In h₀) (N : News h₀ L s.heap news) (T : Top hd.view_39 (looseW hd.view_39 [Str.ofString "ENDS"]) mean mg mb h₀)
    (hf : env.frame = some L) (hk : env.scope.kind = .function) (hdp : d + 9 ≤ 400) (hup : u + 35 ≤ 4000)
    (hU : UpdF src (W.listOf #[.int p tp, .int q tq] k) news U) (ht : (th, W.listOf vs.toArray kt) ∈ news) (hne : @Ne Nat th src) (hp : 0 ≤ p) (hq : 0 ≤ q) (hq2 : q < 2147483647) (h1 : 1 ≤ vs.length) (h2 : vs.length ≤ 1000)
    (hok : ∀ v p' q' tp' tq' h' tk, v ∈ vs → 0 ≤ p' → 0 ≤ q' → q' < 2147483647 → Fr h₀ L h' m → News h₀ L h' (U (W.listOf #[.int p' tp', .int q' tq'] k)) → Q v { s with heap := h', toks := tk }) :
    wpAny (model PySem.Challenge.rw_xm0717_01.row.prog w) ((⟨none, d, some outer, gs, u⟩ : Around).deeper env) (call (.ref 142) [.ref src, .ref th]) Q E s := by
  obtain ⟨pre, post, rfl, hg, a, b⟩ := hU.split
  refine one_call (rest := (pre ++ post).filter fun r => !Nat.beq r.1 th) F B X N T hf hk hdp hup (List.mem_append_right _ (List.mem_cons_self ..)) ht hne hp hq hq2 h1 h2 (fun r hr => ?_) fun v p' q' tp' tq' h' tk c1 c3 c4 c5 F' N' => hok v p' q' tp' tq' h' tk c1 c3 c4 c5 F' ?_
  · obtain ⟨hr, hn⟩ := List.mem_filter.mp hr
    have hn' : @Ne Nat r.1 th := fun z => by
      rw [z, Nat.beq_refl] at hn
      cases hn
    rcases List.mem_append.mp hr with z | z
    · exact ⟨List.mem_append_left _ z, a r z, hn'⟩
    · exact ⟨List.mem_append_right _ (List.mem_cons_of_mem _ z), b r z, hn'⟩
  · rw [hg]
    intro r hr
    have put : r ∈ pre ++ post → h'.get? r.1 = some r.2 ∧ r.1 ≠ L ∧ h₀.get? r.1 = none := fun z => by
      by_cases e : @Eq Nat r.1 th
      · have hr0 : r ∈ pre ++ (src, W.listOf #[.int p tp, .int q tq] k) :: post := by
          rcases List.mem_append.mp z with z | z
          · exact List.mem_append_left _ z
          · exact List.mem_append_right _ (List.mem_cons_of_mem _ z)
        have e' : r.1 = th := e
        have x1 := (N r hr0).1
        have x2 := (N _ ht).1
        rw [e'] at x1
        have x3 : r = (th, W.listOf vs.toArray kt) := by
          obtain ⟨r1, r2⟩ := r
          have : r1 = th := e
          subst this
          exact congrArg _ (Option.some.inj (x1.symm.trans x2))
        rw [x3]
        exact N' _ (List.mem_cons_of_mem _ (List.mem_cons_self ..))
      · exact N' r (List.mem_cons_of_mem _ (List.mem_cons_of_mem _ (List.mem_filter.mpr ⟨z, by
          cases q : Nat.beq r.1 th with
          | false => rfl
          | true => exact absurd (Nat.eq_of_beq_eq_true q) e⟩)))
    rcases List.mem_append.mp hr with z | z
    · exact put (List.mem_append_left _ z)
    · rcases List.mem_cons.mp z with e | z
      · rw [e]; exact N' _ (List.mem_cons_self ..)
      · exact put (List.mem_append_right _ z)
theorem blanks_callU (F : Fr h₀ L s.heap m) (B : Below ⟨none, d, some outer, gs, u⟩ base outer h₀) (X : (hd.heap_39 w.params).In h₀) (N : News h₀ L s.heap news) (T : Top hd.view_39 (looseW hd.view_39 [Str.ofString "ENDS"]) mean mg mb h₀)
    (hf : env.frame = some L) (hk : env.scope.kind = .function) (hdp : d + 13 ≤ 400) (hup : u + 51 ≤ 4000)
    (hU : UpdF src (W.listOf #[.int p tp, .int q tq] k) news U) (hp : 0 ≤ p) (hq : 0 ≤ q) (hq2 : q < 2147483647)
    (hok : ∀ x tx p' q' tp' tq' h' tk, x ∈ blankL → 0 ≤ p' → 0 ≤ q' → q' < 2147483647 → Fr h₀ L h' m → News h₀ L h' (U (W.listOf #[.int p' tp', .int q' tq'] k)) → Q (.str x tx) { s with heap := h', toks := tk }) :
    wpAny (model PySem.Challenge.rw_xm0717_01.row.prog w) ((⟨none, d, some outer, gs, u⟩ : Around).deeper env) (call (.ref 156) [.ref src]) Q E s := by
  obtain ⟨pre, post, rfl, hg, a, b⟩ := hU.split
  refine blanks_call (rest := pre ++ post) F B X N T hf hk hdp hup (List.mem_append_right _ (List.mem_cons_self ..)) hp hq hq2 (fun r hr => ?_) fun x tx p' q' tp' tq' h' tk c1 c3 c4 c5 F' N' => hok x tx p' q' tp' tq' h' tk c1 c3 c4 c5 F' ?_
  · rcases List.mem_append.mp hr with z | z
    · exact ⟨List.mem_append_left _ z, a r z⟩
    · exact ⟨List.mem_append_right _ (List.mem_cons_of_mem _ z), b r z⟩
  · rw [hg]
    intro r hr
    refine N' r ?_
    rcases List.mem_append.mp hr with z | z
    · exact List.mem_cons_of_mem _ (List.mem_append_left _ z)
    · rcases List.mem_cons.mp z with e | z
      · rw [e]; exact List.mem_cons_self ..
      · exact List.mem_cons_of_mem _ (List.mem_append_right _ z)
end
end

section
open PySem PySem.W PySem.Calls PyProof.Rows PySem.Spec
set_option maxRecDepth 100000
set_option maxHeartbeats 4000000

/-- a pair of texts, as an object -/
abbrev tupO (r : PySem.Str) (tr : Tok) (m : PySem.Str) (tm : Tok) : Obj := { cls := .type "tuple", data := .seq #[.str r tr, .str m tm] }
/-- one of the values vs is a pair of the table -/
def PickOf (src : Addr) (news : List (Addr × Obj)) (tbl : List (PySem.Str × PySem.Str)) (v : Value) : Prop :=
  ∃ t r m tr tm, v = .ref t ∧ (r, m) ∈ tbl ∧ @Ne Nat t src ∧ (t, tupO r tr m tm) ∈ news
theorem PickOf.mk {src t : Addr} {news : List (Addr × Obj)} {tbl : List (PySem.Str × PySem.Str)} {r m : PySem.Str} {tr tm : Tok} (hl : @Ne Nat t src) (hm : (t, tupO r tr m tm) ∈ news) (ht : (r, m) ∈ tbl) : PickOf src news tbl (.ref t) := ⟨t, r, m, tr, tm, rfl, ht, hl, hm⟩
theorem picks_nil {src : Addr} {news : List (Addr × Obj)} {tbl : List (PySem.Str × PySem.Str)} : ∀ v ∈ ([] : List Value), PickOf src news tbl v := List.forall_mem_nil _
theorem picks_cons {src : Addr} {news : List (Addr × Obj)} {tbl : List (PySem.Str × PySem.Str)} {v : Value} {vs : List Value} (a : PickOf src news tbl v) (b : ∀ v ∈ vs, PickOf src news tbl v) : ∀ x ∈ v :: vs, PickOf src news tbl x := List.forall_mem_cons.mpr ⟨a, b⟩
theorem news_dup {g h : Heap} {L : Addr} {news : List (Addr × Obj)} {p : Addr × Obj} (N : News g L h news) (hp : p ∈ news) : News g L h (p :: news) := fun q hq => by
  rcases List.mem_cons.mp hq with e | e
  · rw [e]; exact N p hp
  · exact N q e
theorem news_pick {g h : Heap} {L src : Addr} {news : List (Addr × Obj)} {tbl : List (PySem.Str × PySem.Str)} {vs : List Value} {v : Value} (N : News g L h news) (hp : ∀ v ∈ vs, PickOf src news tbl v) (hv : v ∈ vs) :
    ∃ t r m tr tm, v = .ref t ∧ (r, m) ∈ tbl ∧ @Ne Nat t src ∧ News g L h (news ++ [(t, tupO r tr m tm)]) := by
  obtain ⟨t, r, m, tr, tm, e, a, b, c⟩ := hp v hv
  exact ⟨t, r, m, tr, tm, e, a, b, fun q hq => (List.mem_append.mp hq).elim (fun z => N q z) fun z => by rw [List.mem_singleton.mp z]; exact N _ c⟩
/-- the table of the pieces of a value -/
def tblV (o : PySem.Str) : List (PySem.Str × PySem.Str) := [(PySem.Str.ofString "v", PySem.Str.ofString "v"), (PySem.Str.ofString " > b", PySem.Str.ofString " > b"), (o, o), (PySem.Str.ofString "&lt;", PySem.Str.ofString "<"), (PySem.Str.ofString "&#65;", PySem.Str.ofString "A"), (PySem.Str.ofString "&#x3E;", PySem.Str.ofString ">")]
end

section
open PySem PySem.W PySem.Calls PyProof.Rows PySem.Spec
set_option maxRecDepth 100000
set_option maxHeartbeats 4000000

open PyProof.Rows.LCg
section
variable {prog : Program} {w : World} {A : Around} {s : Shared} {h₀ : Heap} {L : Addr} {m : PySem.Str → Option Value} {env : Env} {elt : PySem.Expr} {scope : Scope} {cl : List (PySem.Str × Addr)} {S : List (Addr × Obj) → Prop} {P : Nat → Value → Prop}
theorem compEnd_mono {s₁ s₂ : Shared} {I C D : Addr} {oI oC oD : Obj} {rest rest' : Value → List (Addr × Obj) → Prop} {y : Value} (h : CompEnd h₀ L m s₁ I oI C oC D oD S rest y s₂) (k : ∀ news', rest y news' → rest' y news') : CompEnd h₀ L m s₁ I oI C oC D oD S rest' y s₂ := by
  obtain ⟨h', tk, news', e, F, N, off, hS, r⟩ := h
  exact ⟨h', tk, news', e, F, N, off, hS, k _ r⟩
/-- a comprehension by what holds of the items made so far and of the ledger -/
theorem rest_ind {x : PySem.Str} {n : Nat} {Fin : List Value → List (Addr × Obj) → Prop} (Inv : Nat → List Value → List (Addr × Obj) → Prop)
    (step : ∀ i ys news v I oI C oC D m₂ h tk (E' : Value → Shared → Prop), Inv i ys news → i < n → P i v → NsObj oC m₂ → m₂ x = some v → Fr h₀ L h m → News h₀ L h ((I, oI) :: (C, oC) :: (D, lst ys) :: news) → Off3 I C D news → ((@Ne Nat I C) ∧ (@Ne Nat I D) ∧ (@Ne Nat C D)) →
      wpAny (model prog w) A (PySem.eval elt (compEnvC scope cl C env)) (CompEnd h₀ L m { s with heap := h, toks := tk } I oI C oC D (lst ys) S (fun y news' => Inv (i + 1) (ys ++ [y]) news')) E' { s with heap := h, toks := tk })
    (fin : ∀ ys news, Inv n ys news → Fin ys news) : ∀ k i ys news, i + k = n → Inv i ys news → CompRest prog w A h₀ L m env elt x scope cl s S P Fin k i ys news
  | 0, i, ys, news, e, J => CompRest.zero (fin ys news (by have : i = n := by omega
                                                           rw [← this]; exact J))
  | k + 1, i, ys, news, e, J => CompRest.succ fun v I oI C oC D m₂ h tk E' p hC hx F N off ne =>
      wpAny_mono (step i ys news v I oI C oC D m₂ h tk E' J (by omega) p hC hx F N off ne) (fun y s' z => compEnd_mono z fun news' J' => rest_ind Inv step fin k (i + 1) (ys ++ [y]) news' (by omega) J') fun _ _ z => z
/-- the same, of pairs unpacked -/
theorem restP_ind {x x₂ : PySem.Str} {n : Nat} {Fin : List Value → List (Addr × Obj) → Prop} (Inv : Nat → List Value → List (Addr × Obj) → Prop)
    (tup : ∀ i ys news v, Inv i ys news → i < n → P i v → ∃ (t : Addr) (ot : Obj) (v₁ v₂ : Value) (nt : Nat), v = .ref t ∧ (t, ot) ∈ news ∧ ot.cls = .type "tuple" ∧ ot.data = .seq #[v₁, v₂] nt ∧
      ∀ I oI C oC D m₂ h tk (E' : Value → Shared → Prop), NsObj oC m₂ → m₂ x = some v₁ → m₂ x₂ = some v₂ → Fr h₀ L h m → News h₀ L h ((I, oI) :: (C, oC) :: (D, lst ys) :: news) → Off3 I C D news → ((@Ne Nat I C) ∧ (@Ne Nat I D) ∧ (@Ne Nat C D)) →
      wpAny (model prog w) A (PySem.eval elt (compEnvC scope cl C env)) (CompEnd h₀ L m { s with heap := h, toks := tk } I oI C oC D (lst ys) S (fun y news' => Inv (i + 1) (ys ++ [y]) news')) E' { s with heap := h, toks := tk })
    (fin : ∀ ys news, Inv n ys news → Fin ys news) : ∀ k i ys news, i + k = n → Inv i ys news → LCp.CompRestP prog w A h₀ L m env elt x x₂ scope cl s S P Fin k i ys news
  | 0, i, ys, news, e, J => LCp.CompRestP.zero (fin ys news (by have : i = n := by omega
                                                                rw [← this]; exact J))
  | k + 1, i, ys, news, e, J => LCp.CompRestP.succ fun v p => by
      obtain ⟨t, ot, v₁, v₂, nt, e1, e2, e3, e4, H⟩ := tup i ys news v J (by omega) p
      exact ⟨t, ot, v₁, v₂, nt, e1, e2, e3, e4, fun I oI C oC D m₂ h tk E' hC hx hx2 F N off ne =>
        wpAny_mono (H I oI C oC D m₂ h tk E' hC hx hx2 F N off ne) (fun y s' z => compEnd_mono z fun news' J' => restP_ind Inv tup fin k (i + 1) (ys ++ [y]) news' (by omega) J') fun _ _ z => z⟩
end
/-- the values are pairs of texts of a table, that the ledger holds -/
inductive PairsIn (news : List (Addr × Obj)) (tbl : List (PySem.Str × PySem.Str)) : List Value → List (PySem.Str × PySem.Str) → Prop
  | nil : PairsIn news tbl [] []
  | cons {t : Addr} {r m : PySem.Str} {tr tm : Tok} {vs : List Value} {ps : List (PySem.Str × PySem.Str)} : (t, tupO r tr m tm) ∈ news → (r, m) ∈ tbl → PairsIn news tbl vs ps → PairsIn news tbl (.ref t :: vs) ((r, m) :: ps)
theorem PairsIn.of {news : List (Addr × Obj)} {tbl : List (PySem.Str × PySem.Str)} : ∀ {vs : List Value}, (∀ v ∈ vs, ∃ t r m tr tm, v = .ref t ∧ (r, m) ∈ tbl ∧ (t, tupO r tr m tm) ∈ news) → ∃ ps, PairsIn news tbl vs ps
  | [], _ => ⟨[], .nil⟩
  | v :: vs, h => by
    obtain ⟨t, r, m, tr, tm, rfl, a, b⟩ := h v (.head _)
    obtain ⟨ps, H⟩ := PairsIn.of (vs := vs) fun x hx => h x (.tail _ hx)
    exact ⟨_, .cons b a H⟩
theorem PairsIn.length {news : List (Addr × Obj)} {tbl : List (PySem.Str × PySem.Str)} {vs : List Value} {ps : List (PySem.Str × PySem.Str)} (h : PairsIn news tbl vs ps) : ps.length = vs.length := by
  induction h with
  | nil => rfl
  | cons _ _ _ ih => rw [List.length_cons, List.length_cons, ih]
theorem PairsIn.tbl {news : List (Addr × Obj)} {tbl : List (PySem.Str × PySem.Str)} {vs : List Value} {ps : List (PySem.Str × PySem.Str)} (h : PairsIn news tbl vs ps) : ∀ p ∈ ps, p ∈ tbl := by
  induction h with
  | nil => exact List.forall_mem_nil _
  | cons _ a _ ih => exact List.forall_mem_cons.mpr ⟨a, ih⟩
theorem PairsIn.get {news : List (Addr × Obj)} {tbl : List (PySem.Str × PySem.Str)} {vs : List Value} {ps : List (PySem.Str × PySem.Str)} (h : PairsIn news tbl vs ps) : ∀ (i : Nat) (v : Value), vs.toArray[i]? = some v → ∃ t r m tr tm, v = .ref t ∧ (t, tupO r tr m tm) ∈ news ∧ ps[i]? = some (r, m) := by
  induction h with
  | nil => intro i v e; simp at e
  | cons a _ _ ih =>
    intro i v e
    cases i with
    | zero =>
      have := Option.some.inj (show some (Value.ref _) = some v from by simpa using e)
      subst this
      exact ⟨_, _, _, _, _, rfl, a, rfl⟩
    | succ i =>
      obtain ⟨t, r, m, tr, tm, e1, e2, e3⟩ := ih i v (by simpa using e)
      exact ⟨t, r, m, tr, tm, e1, e2, by simpa using e3⟩
theorem strs_fst {ps : List (PySem.Str × PySem.Str)} {zs : List Value} {i : Nat} {r m : PySem.Str} {t : Tok} (h : StrsAre zs ((ps.take i).map (·.1))) (e : ps[i]? = some (r, m)) : StrsAre (zs ++ [.str r t]) ((ps.take (i + 1)).map (·.1)) := by
  rw [List.take_add_one, e]
  simp only [Option.toList_some, List.map_append, List.map_cons, List.map_nil]
  exact strs_snoc h
theorem strs_snd {ps : List (PySem.Str × PySem.Str)} {zs : List Value} {i : Nat} {r m : PySem.Str} {t : Tok} (h : StrsAre zs ((ps.take i).map (·.2))) (e : ps[i]? = some (r, m)) : StrsAre (zs ++ [.str m t]) ((ps.take (i + 1)).map (·.2)) := by
  rw [List.take_add_one, e]
  simp only [Option.toList_some, List.map_append, List.map_cons, List.map_nil]
  exact strs_snoc h
section
variable {o : PySem.Str}
theorem tv0 : (PySem.Str.ofString "v", PySem.Str.ofString "v") ∈ tblV o := .head _
theorem tv1 : (PySem.Str.ofString " > b", PySem.Str.ofString " > b") ∈ tblV o := .tail _ (.head _)
theorem tv2 : (o, o) ∈ tblV o := .tail _ (.tail _ (.head _))
theorem tv3 : (PySem.Str.ofString "&lt;", PySem.Str.ofString "<") ∈ tblV o := .tail _ (.tail _ (.tail _ (.head _)))
theorem tv4 : (PySem.Str.ofString "&#65;", PySem.Str.ofString "A") ∈ tblV o := .tail _ (.tail _ (.tail _ (.tail _ (.head _))))
theorem tv5 : (PySem.Str.ofString "&#x3E;", PySem.Str.ofString ">") ∈ tblV o := .tail _ (.tail _ (.tail _ (.tail _ (.tail _ (.head _)))))
end
theorem tblV_len {o : PySem.Str} (ho : o.length ≤ 10) : ∀ p ∈ tblV o, p.1.length ≤ 10 ∧ p.2.length ≤ 10 := by
  intro p hp
  unfold tblV at hp
  simp only [List.mem_cons, List.not_mem_nil, or_false] at hp
  rcases hp with rfl | rfl | rfl | rfl | rfl | rfl <;> first | exact ⟨ho, ho⟩ | exact ⟨by decide +kernel, by decide +kernel⟩
theorem sum_le {α : Type} (f : α → PySem.Str) : ∀ {ps : List α}, (∀ p ∈ ps, (f p).length ≤ 10) → (((ps.map f).map (·.length)).sum : Nat) ≤ 10 * ps.length
  | [], _ => Nat.le_refl _
  | p :: ps, h => by
    have := sum_le f (ps := ps) fun q hq => h q (.tail _ hq)
    have := h p (.head _)
    simp only [List.map_cons, List.sum_cons, List.length_cons]
    omega
theorem weight_le {α : Type} (f : α → PySem.Str) {ps : List α} (h : ∀ p ∈ ps, (f p).length ≤ 10) (h3 : ps.length ≤ 1000) : (((ps.map f).map (·.length)).sum : Nat) + (ps.map f).length ≤ 1048576 := by
  have := sum_le f h
  rw [List.length_map]
  omega
theorem join_cs (ys : List PySem.Str) : (Txt.join (PySem.Str.ofString "") ys).cps.toList = catS ys := by
  have e : Txt.join (PySem.Str.ofString "") ys = ⟨(catS ys).toArray⟩ := by
    rw [← catS_join, ← StrLaws.glued_eq_join]
    rfl
  rw [e]
theorem news_keep {g h : Heap} {L src : Addr} {a : List (Addr × Obj)} {x y : Value} {k : Nat} (N : News g L h a) (hm : (src, W.listOf #[x, y] k) ∈ a) : News g L h [(src, W.listOf #[x, y] k)] := fun p hp => by
  rw [List.mem_singleton.mp hp]
  exact N _ hm
theorem range_size {f : Int} (h0 : 0 ≤ f) (h1 : f < 4) : Builtin.Range.rangeSize 0 (3 - f) 1 = (((3 - f).toNat : Nat) : Int) ∧ Builtin.Range.small 0 (3 - f) 1 = true := by
  have : f = 0 ∨ f = 1 ∨ f = 2 ∨ f = 3 := by omega
  rcases this with rfl | rfl | rfl | rfl <;> exact ⟨by rfl, by rfl⟩
end

section
open PySem PySem.W PySem.Calls PyProof.Rows PySem.Spec
set_option maxRecDepth 100000
set_option maxHeartbeats 4000000

theorem fill_value (w : World) : PySem.Challenge.rw_xm0717_01.prog = PySem.Challenge.rw_xm0717_01.prog ∧ hd.heap_39 w.params = hd.heap_39 w.params := by k_fill; exact ⟨rfl, rfl⟩


theorem value_ctr {src : Addr} {p q : Int} {tp tq to : Tok} {o : PySem.Str} {k : Nat} (hp : 0 ≤ p) (hq : 0 ≤ q) (hq2 : q < 2147483647) (ho : o.length ≤ 10) :
    Ctr 20 161 [.ref src, .str o to] [(src, W.listOf #[.int p tp, .int q tq] k)]
      (fun _ v l => ∃ (t : Addr) (raw meant : PySem.Str) (tr tm : Tok) (p' q' : Int) (tp' tq' : Tok) (ps : List (PySem.Str × PySem.Str)), v = .ref t ∧ @Ne Nat t src ∧ ps.length ≤ 3 ∧ (∀ x ∈ ps, x ∈ tblV o) ∧ raw.cps.toList = catS (ps.map (·.1)) ∧ meant.cps.toList = catS (ps.map (·.2)) ∧ 0 ≤ p' ∧ 0 ≤ q' ∧ q' < 2147483647 ∧
        l = [(t, tupO raw tr meant tm), (src, W.listOf #[.int p' tp', .int q' tq'] k)]) (fun _ => False) := by
  intro w mean mg mb d u gs base outer g s S hdp hup R hok her
  have hfill : PySem.Challenge.rw_xm0717_01.prog = PySem.Challenge.rw_xm0717_01.prog ∧ hd.heap_39 w.params = hd.heap_39 w.params := by k_fill; exact ⟨rfl, rfl⟩
  clear hfill
  have B := S.below
  have X := S.kin
  have T0 := S.top
  refine' enterC (binds := [(PySem.Str.ofString "source", .ref src), (PySem.Str.ofString "other", .str o to)]) S ?k6 ?k7 ?k8 ?k9 ?kB ?kD ?_ ?c2 ?c3 ?c4; (case k6 => k_is); (case k7 => k_is); (case k8 => k_room); (case k9 => exact BindsTo.of_eq rfl); (case kB => exact rfl); (case kD => decide +kernel); (case c2 => exact rfl); (case c3 => exact rfl); (case c4 => exact rfl)
  intro L' h₁ tk' cells' F N Y l1
  (try k_lt l1)
  k_cells Y
  (try simp only [List.cons_append, List.nil_append] at N)
  clear S
  show wpAny _ _ _ _ _ _
  k_fold
  iterate 76 try ((fail_if_success (with_reducible show wpAny _ _ (call (Value.ref 135) _ _) _ _ _)); (first | (k_unfold; (try dsimp only)) | (k_end; wrow_close) | (first | ((with_reducible show wpAny _ _ (exec (Stmt.Assign _ (Expr.ListComp _ _ _ _) _) _) _ _ _); (k_here; lcg_calm; (refine LCg.Assign_ListComp_U (F₀ := by k_asm) (by rfl) (by with_unfolding_all rfl) (by rfl) (by decide) (by rfl) (by decide) (by rfl) (by rfl) (by rfl) ?_); k_dflt lcg_toSrc)) | ((with_reducible show wpAny _ _ (leaving _ (Value.ref _)) _ _ _); (k_here; (refine' leave_onSN ?k1 ?k2 ?k3 ?k4 ?_; (case k3 => assumption); (case k1 => assumption); (case k4 => assumption); (case k2 => assumption); k_whole; intro h' R' _ U'; (try dsimp only at R' U' ⊢)))) | ((with_reducible show wpAny _ _ (leaving _ (Value.ref _)) _ _ _); (k_here; (refine' leave_newE ?k1 ?k0 ?k2 ?k3 ?kf ?kk ?_; (case kf => exact rfl); (case kk => exact rfl); (case k0 => assumption); (case k1 => assumption); (case k2 => assumption); (case k3 => k_asm); k_whole; intro h' R' U'; (try dsimp only at R' U' ⊢)))) | (k_here; (with_reducible show wpAny _ _ (call (Value.ref 44) [Value.str _ _]) _ _ _); (refine' sheet_call ?kB ?kF ?kX ?kT ?kc ?kk ?kr ?_; (case kc => exact rfl); (case kk => exact rfl); (case kF => k_asm); (case kB => k_asm); (case kX => k_asm); (case kT => k_asm); (case kr => (try dsimp only); omega)); (intro h' e' tk' x'); (refine' raisable_of ?kF ?kX x' ?_; (case kF => k_asm); (case kX => k_asm))) | (k_here; (with_reducible show wpAny _ _ (exec (Stmt.Raise (some (Expr.Call (Expr.Name (PySem.Str.ofString "SheetFault") _) _ _ _)) none _) _) _ _ _); refine Raise_sheetW rfl ?_) | ((with_reducible show wpAny _ _ (subscriptTail _ _ (Value.str _ _) (Value.int _ _)) _ _ _); (refine item_str (fitsSsize_of (N := 9223372036854775808) (by omega) (by omega) (Int.le_refl _)) (by omega) (by omega) ?_; intro _)) | (k_here; (with_reducible show wpAny _ _ (call (Value.builtin "len") [Value.str _ _]) _ _ _); refine P.len_str (by omega) ?_) | walk1) | (dsimp only; (first | ((with_reducible show wpAny _ _ (exec (Stmt.Assign _ (Expr.ListComp _ _ _ _) _) _) _ _ _); (k_here; lcg_calm; (refine LCg.Assign_ListComp_U (F₀ := by k_asm) (by rfl) (by with_unfolding_all rfl) (by rfl) (by decide) (by rfl) (by decide) (by rfl) (by rfl) (by rfl) ?_); k_dflt lcg_toSrc)) | ((with_reducible show wpAny _ _ (leaving _ (Value.ref _)) _ _ _); (k_here; (refine' leave_onSN ?k1 ?k2 ?k3 ?k4 ?_; (case k3 => assumption); (case k1 => assumption); (case k4 => assumption); (case k2 => assumption); k_whole; intro h' R' _ U'; (try dsimp only at R' U' ⊢)))) | ((with_reducible show wpAny _ _ (leaving _ (Value.ref _)) _ _ _); (k_here; (refine' leave_newE ?k1 ?k0 ?k2 ?k3 ?kf ?kk ?_; (case kf => exact rfl); (case kk => exact rfl); (case k0 => assumption); (case k1 => assumption); (case k2 => assumption); (case k3 => k_asm); k_whole; intro h' R' U'; (try dsimp only at R' U' ⊢)))) | (k_here; (with_reducible show wpAny _ _ (call (Value.ref 44) [Value.str _ _]) _ _ _); (refine' sheet_call ?kB ?kF ?kX ?kT ?kc ?kk ?kr ?_; (case kc => exact rfl); (case kk => exact rfl); (case kF => k_asm); (case kB => k_asm); (case kX => k_asm); (case kT => k_asm); (case kr => (try dsimp only); omega)); (intro h' e' tk' x'); (refine' raisable_of ?kF ?kX x' ?_; (case kF => k_asm); (case kX => k_asm))) | (k_here; (with_reducible show wpAny _ _ (exec (Stmt.Raise (some (Expr.Call (Expr.Name (PySem.Str.ofString "SheetFault") _) _ _ _)) none _) _) _ _ _); refine Raise_sheetW rfl ?_) | ((with_reducible show wpAny _ _ (subscriptTail _ _ (Value.str _ _) (Value.int _ _)) _ _ _); (refine item_str (fitsSsize_of (N := 9223372036854775808) (by omega) (by omega) (Int.le_refl _)) (by omega) (by omega) ?_; intro _)) | (k_here; (with_reducible show wpAny _ _ (call (Value.builtin "len") [Value.str _ _]) _ _ _); refine P.len_str (by omega) ?_) | walk1)) | fail "no step"))
  (refine' take_callU ?kF ?kB ?kX ?kN ?kT rfl rfl ?kd ?ku ?kU ?kp ?kq ?kq2 ?k1 ?k2 ?_; (case kF => k_asm); (case kB => k_asm); (case kX => k_asm); (case kN => k_asm); (case kT => k_asm); (case kd => omega); (case ku => omega); (case kU => k_updF); (case kp => assumption); (case kq => assumption); (case kq2 => assumption); (case k1 => decide); (case k2 => decide)); intro f9 tf9 p9 q9 tp9 tq9 h9 tk9 b1 b2 b3 b4 b5 F9 N9; (try dsimp only at N9)
  iterate 3 try ((fail_if_success (with_reducible show LCg.CompSrc _ _ _ _ _ _ _ _ _ _ _ _ _ _)); (first | (k_unfold; (try dsimp only)) | (k_end; wrow_close) | (first | ((with_reducible show wpAny _ _ (exec (Stmt.Assign _ (Expr.ListComp _ _ _ _) _) _) _ _ _); (k_here; lcg_calm; (refine LCg.Assign_ListComp_U (F₀ := by k_asm) (by rfl) (by with_unfolding_all rfl) (by rfl) (by decide) (by rfl) (by decide) (by rfl) (by rfl) (by rfl) ?_); k_dflt lcg_toSrc)) | ((with_reducible show wpAny _ _ (leaving _ (Value.ref _)) _ _ _); (k_here; (refine' leave_onSN ?k1 ?k2 ?k3 ?k4 ?_; (case k3 => assumption); (case k1 => assumption); (case k4 => assumption); (case k2 => assumption); k_whole; intro h' R' _ U'; (try dsimp only at R' U' ⊢)))) | ((with_reducible show wpAny _ _ (leaving _ (Value.ref _)) _ _ _); (k_here; (refine' leave_newE ?k1 ?k0 ?k2 ?k3 ?kf ?kk ?_; (case kf => exact rfl); (case kk => exact rfl); (case k0 => assumption); (case k1 => assumption); (case k2 => assumption); (case k3 => k_asm); k_whole; intro h' R' U'; (try dsimp only at R' U' ⊢)))) | (k_here; (with_reducible show wpAny _ _ (call (Value.ref 44) [Value.str _ _]) _ _ _); (refine' sheet_call ?kB ?kF ?kX ?kT ?kc ?kk ?kr ?_; (case kc => exact rfl); (case kk => exact rfl); (case kF => k_asm); (case kB => k_asm); (case kX => k_asm); (case kT => k_asm); (case kr => (try dsimp only); omega)); (intro h' e' tk' x'); (refine' raisable_of ?kF ?kX x' ?_; (case kF => k_asm); (case kX => k_asm))) | (k_here; (with_reducible show wpAny _ _ (exec (Stmt.Raise (some (Expr.Call (Expr.Name (PySem.Str.ofString "SheetFault") _) _ _ _)) none _) _) _ _ _); refine Raise_sheetW rfl ?_) | ((with_reducible show wpAny _ _ (subscriptTail _ _ (Value.str _ _) (Value.int _ _)) _ _ _); (refine item_str (fitsSsize_of (N := 9223372036854775808) (by omega) (by omega) (Int.le_refl _)) (by omega) (by omega) ?_; intro _)) | (k_here; (with_reducible show wpAny _ _ (call (Value.builtin "len") [Value.str _ _]) _ _ _); refine P.len_str (by omega) ?_) | walk1) | (dsimp only; (first | ((with_reducible show wpAny _ _ (exec (Stmt.Assign _ (Expr.ListComp _ _ _ _) _) _) _ _ _); (k_here; lcg_calm; (refine LCg.Assign_ListComp_U (F₀ := by k_asm) (by rfl) (by with_unfolding_all rfl) (by rfl) (by decide) (by rfl) (by decide) (by rfl) (by rfl) (by rfl) ?_); k_dflt lcg_toSrc)) | ((with_reducible show wpAny _ _ (leaving _ (Value.ref _)) _ _ _); (k_here; (refine' leave_onSN ?k1 ?k2 ?k3 ?k4 ?_; (case k3 => assumption); (case k1 => assumption); (case k4 => assumption); (case k2 => assumption); k_whole; intro h' R' _ U'; (try dsimp only at R' U' ⊢)))) | ((with_reducible show wpAny _ _ (leaving _ (Value.ref _)) _ _ _); (k_here; (refine' leave_newE ?k1 ?k0 ?k2 ?k3 ?kf ?kk ?_; (case kf => exact rfl); (case kk => exact rfl); (case k0 => assumption); (case k1 => assumption); (case k2 => assumption); (case k3 => k_asm); k_whole; intro h' R' U'; (try dsimp only at R' U' ⊢)))) | (k_here; (with_reducible show wpAny _ _ (call (Value.ref 44) [Value.str _ _]) _ _ _); (refine' sheet_call ?kB ?kF ?kX ?kT ?kc ?kk ?kr ?_; (case kc => exact rfl); (case kk => exact rfl); (case kF => k_asm); (case kB => k_asm); (case kX => k_asm); (case kT => k_asm); (case kr => (try dsimp only); omega)); (intro h' e' tk' x'); (refine' raisable_of ?kF ?kX x' ?_; (case kF => k_asm); (case kX => k_asm))) | (k_here; (with_reducible show wpAny _ _ (exec (Stmt.Raise (some (Expr.Call (Expr.Name (PySem.Str.ofString "SheetFault") _) _ _ _)) none _) _) _ _ _); refine Raise_sheetW rfl ?_) | ((with_reducible show wpAny _ _ (subscriptTail _ _ (Value.str _ _) (Value.int _ _)) _ _ _); (refine item_str (fitsSsize_of (N := 9223372036854775808) (by omega) (by omega) (Int.le_refl _)) (by omega) (by omega) ?_; intro _)) | (k_here; (with_reducible show wpAny _ _ (call (Value.builtin "len") [Value.str _ _]) _ _ _); refine P.len_str (by omega) ?_) | walk1)) | fail "no step"))
  refine LCg.CompSrc.range (n := (3 - f9).toNat) (by rfl) (by k_asm) (by k_asm) (by assumption) ?hsm ?hn ?hz ?_
  case hsm => exact (range_size b1 b2).2
  case hn => exact (range_size b1 b2).1
  case hz => show _ ≤ 16777216; omega
  intro g'
  rename_i oc0 oc2 od1 od2 D5 hh8 ll6 D4 hh7 ll5 D3 hh6 ll4 D2 hh5 ll3 D1 hh4 ll2 D0 hh3 ll1 lp hh2 ll0 hh1 oc1 FF1 NN1 dd1 FF2 NN2 hh0 tk0 t0 u0 v0 aa3 aa2 aa1 aa0
  refine rest_ind (n := (3 - f9).toNat) (fun i ys nw => ys.length = i ∧ (∀ y ∈ ys, y ∈ [Value.ref D5, Value.ref D4, Value.ref D3, Value.ref D2, Value.ref D1, Value.ref D0]) ∧ ∃ p' q' tp' tq', 0 ≤ p' ∧ 0 ≤ q' ∧ q' < 2147483647 ∧
    nw = [(lp, W.listOf #[Value.ref D5, Value.ref D4, Value.ref D3, Value.ref D2, Value.ref D1, Value.ref D0] 0), (D0, tupO (PySem.Str.ofString "&#x3E;") (tk' + 1 + 1 + 1 + 1 + 1 + 1 + 1 + 1) (PySem.Str.ofString ">") (tk' + 1 + 1 + 1 + 1 + 1 + 1 + 1 + 1 + 1)), (D1, tupO (PySem.Str.ofString "&#65;") (tk' + 1 + 1 + 1 + 1 + 1 + 1) (PySem.Str.ofString "A") (tk' + 1 + 1 + 1 + 1 + 1 + 1 + 1)), (D2, tupO (PySem.Str.ofString "&lt;") (tk' + 1 + 1 + 1 + 1) (PySem.Str.ofString "<") (tk' + 1 + 1 + 1 + 1 + 1)), (D3, tupO o to o to), (D4, tupO (PySem.Str.ofString " > b") (tk' + 1 + 1) (PySem.Str.ofString " > b") (tk' + 1 + 1 + 1)), (D5, tupO (PySem.Str.ofString "v") tk' (PySem.Str.ofString "v") (tk' + 1)), (L' + 1 + 1, oc1), (L' + 1, oc2), (src, W.listOf #[.int p' tp', .int q' tq'] k)]) ?step ?fin (3 - f9).toNat 0 [] _ (Nat.zero_add _) ?start
  case start => exact ⟨rfl, List.forall_mem_nil _, p9, q9, tp9, tq9, b3, b4, b5, rfl⟩
  rotate_left
  case fin =>
    intro ys nw J
    obtain ⟨hyl, hys, p10, q10, tp10, tq10, c1, c2, c3, rfl⟩ := J
    intro DC h12 tk12 F12 N12 o12
    clear o12
    clear NN1 NN2 FF1 FF2
    obtain ⟨ps, hps⟩ := PairsIn.of (tbl := tblV o) (news := [(lp, W.listOf #[Value.ref D5, Value.ref D4, Value.ref D3, Value.ref D2, Value.ref D1, Value.ref D0] 0), (D0, tupO (PySem.Str.ofString "&#x3E;") (tk' + 1 + 1 + 1 + 1 + 1 + 1 + 1 + 1) (PySem.Str.ofString ">") (tk' + 1 + 1 + 1 + 1 + 1 + 1 + 1 + 1 + 1)), (D1, tupO (PySem.Str.ofString "&#65;") (tk' + 1 + 1 + 1 + 1 + 1 + 1) (PySem.Str.ofString "A") (tk' + 1 + 1 + 1 + 1 + 1 + 1 + 1)), (D2, tupO (PySem.Str.ofString "&lt;") (tk' + 1 + 1 + 1 + 1) (PySem.Str.ofString "<") (tk' + 1 + 1 + 1 + 1 + 1)), (D3, tupO o to o to), (D4, tupO (PySem.Str.ofString " > b") (tk' + 1 + 1) (PySem.Str.ofString " > b") (tk' + 1 + 1 + 1)), (D5, tupO (PySem.Str.ofString "v") tk' (PySem.Str.ofString "v") (tk' + 1)), (L' + 1 + 1, oc1), (L' + 1, oc2), (src, W.listOf #[.int p10 tp10, .int q10 tq10] k)]) fun y hy => by
      have z := hys y hy
      simp only [List.mem_cons, List.not_mem_nil, or_false] at z
      rcases z with z | z | z | z | z | z
      · exact ⟨D5, _, _, _, _, z, tv0, (.tail _ (.tail _ (.tail _ (.tail _ (.tail _ (.tail _ (.head _)))))))⟩
      · exact ⟨D4, _, _, _, _, z, tv1, (.tail _ (.tail _ (.tail _ (.tail _ (.tail _ (.head _))))))⟩
      · exact ⟨D3, _, _, _, _, z, tv2, (.tail _ (.tail _ (.tail _ (.tail _ (.head _)))))⟩
      · exact ⟨D2, _, _, _, _, z, tv3, (.tail _ (.tail _ (.tail _ (.head _))))⟩
      · exact ⟨D1, _, _, _, _, z, tv4, (.tail _ (.tail _ (.head _)))⟩
      · exact ⟨D0, _, _, _, _, z, tv5, (.tail _ (.head _))⟩
    have hpl := hps.length
    iterate 10 try ((fail_if_success (with_reducible show wpAny _ _ (PySem.eval (Expr.ListComp _ _ _ _) _) _ _ _)); (first | (k_unfold; (try dsimp only)) | (k_end; wrow_close) | (first | ((with_reducible show wpAny _ _ (exec (Stmt.Assign _ (Expr.ListComp _ _ _ _) _) _) _ _ _); (k_here; lcg_calm; (refine LCg.Assign_ListComp_U (F₀ := by k_asm) (by rfl) (by with_unfolding_all rfl) (by rfl) (by decide) (by rfl) (by decide) (by rfl) (by rfl) (by rfl) ?_); k_dflt lcg_toSrc)) | ((with_reducible show wpAny _ _ (leaving _ (Value.ref _)) _ _ _); (k_here; (refine' leave_onSN ?k1 ?k2 ?k3 ?k4 ?_; (case k3 => assumption); (case k1 => assumption); (case k4 => assumption); (case k2 => assumption); k_whole; intro h' R' _ U'; (try dsimp only at R' U' ⊢)))) | ((with_reducible show wpAny _ _ (leaving _ (Value.ref _)) _ _ _); (k_here; (refine' leave_newE ?k1 ?k0 ?k2 ?k3 ?kf ?kk ?_; (case kf => exact rfl); (case kk => exact rfl); (case k0 => assumption); (case k1 => assumption); (case k2 => assumption); (case k3 => k_asm); k_whole; intro h' R' U'; (try dsimp only at R' U' ⊢)))) | (k_here; (with_reducible show wpAny _ _ (call (Value.ref 44) [Value.str _ _]) _ _ _); (refine' sheet_call ?kB ?kF ?kX ?kT ?kc ?kk ?kr ?_; (case kc => exact rfl); (case kk => exact rfl); (case kF => k_asm); (case kB => k_asm); (case kX => k_asm); (case kT => k_asm); (case kr => (try dsimp only); omega)); (intro h' e' tk' x'); (refine' raisable_of ?kF ?kX x' ?_; (case kF => k_asm); (case kX => k_asm))) | (k_here; (with_reducible show wpAny _ _ (exec (Stmt.Raise (some (Expr.Call (Expr.Name (PySem.Str.ofString "SheetFault") _) _ _ _)) none _) _) _ _ _); refine Raise_sheetW rfl ?_) | ((with_reducible show wpAny _ _ (subscriptTail _ _ (Value.str _ _) (Value.int _ _)) _ _ _); (refine item_str (fitsSsize_of (N := 9223372036854775808) (by omega) (by omega) (Int.le_refl _)) (by omega) (by omega) ?_; intro _)) | (k_here; (with_reducible show wpAny _ _ (call (Value.builtin "len") [Value.str _ _]) _ _ _); refine P.len_str (by omega) ?_) | walk1) | (dsimp only; (first | ((with_reducible show wpAny _ _ (exec (Stmt.Assign _ (Expr.ListComp _ _ _ _) _) _) _ _ _); (k_here; lcg_calm; (refine LCg.Assign_ListComp_U (F₀ := by k_asm) (by rfl) (by with_unfolding_all rfl) (by rfl) (by decide) (by rfl) (by decide) (by rfl) (by rfl) (by rfl) ?_); k_dflt lcg_toSrc)) | ((with_reducible show wpAny _ _ (leaving _ (Value.ref _)) _ _ _); (k_here; (refine' leave_onSN ?k1 ?k2 ?k3 ?k4 ?_; (case k3 => assumption); (case k1 => assumption); (case k4 => assumption); (case k2 => assumption); k_whole; intro h' R' _ U'; (try dsimp only at R' U' ⊢)))) | ((with_reducible show wpAny _ _ (leaving _ (Value.ref _)) _ _ _); (k_here; (refine' leave_newE ?k1 ?k0 ?k2 ?k3 ?kf ?kk ?_; (case kf => exact rfl); (case kk => exact rfl); (case k0 => assumption); (case k1 => assumption); (case k2 => assumption); (case k3 => k_asm); k_whole; intro h' R' U'; (try dsimp only at R' U' ⊢)))) | (k_here; (with_reducible show wpAny _ _ (call (Value.ref 44) [Value.str _ _]) _ _ _); (refine' sheet_call ?kB ?kF ?kX ?kT ?kc ?kk ?kr ?_; (case kc => exact rfl); (case kk => exact rfl); (case kF => k_asm); (case kB => k_asm); (case kX => k_asm); (case kT => k_asm); (case kr => (try dsimp only); omega)); (intro h' e' tk' x'); (refine' raisable_of ?kF ?kX x' ?_; (case kF => k_asm); (case kX => k_asm))) | (k_here; (with_reducible show wpAny _ _ (exec (Stmt.Raise (some (Expr.Call (Expr.Name (PySem.Str.ofString "SheetFault") _) _ _ _)) none _) _) _ _ _); refine Raise_sheetW rfl ?_) | ((with_reducible show wpAny _ _ (subscriptTail _ _ (Value.str _ _) (Value.int _ _)) _ _ _); (refine item_str (fitsSsize_of (N := 9223372036854775808) (by omega) (by omega) (Int.le_refl _)) (by omega) (by omega) ?_; intro _)) | (k_here; (with_reducible show wpAny _ _ (call (Value.builtin "len") [Value.str _ _]) _ _ _); refine P.len_str (by omega) ?_) | walk1)) | fail "no step"))
    (refine LCp.ListComp_P (F₀ := by k_asm) (by with_unfolding_all rfl) (by decide) (by rfl) (by decide) (by rfl) (by rfl) (by decide) ?_)
    iterate 4 try ((fail_if_success (with_reducible show LCp.SrcLP _ _ _ _ _ _ _ _ _ _ _ _ _ _ _)); (first | (k_unfold; (try dsimp only)) | (first | ((with_reducible show wpAny _ _ (exec (Stmt.Assign _ (Expr.ListComp _ _ _ _) _) _) _ _ _); (k_here; lcg_calm; (refine LCg.Assign_ListComp_U (F₀ := by k_asm) (by rfl) (by with_unfolding_all rfl) (by rfl) (by decide) (by rfl) (by decide) (by rfl) (by rfl) (by rfl) ?_); k_dflt lcg_toSrc)) | ((with_reducible show wpAny _ _ (leaving _ (Value.ref _)) _ _ _); (k_here; (refine' leave_onSN ?k1 ?k2 ?k3 ?k4 ?_; (case k3 => assumption); (case k1 => assumption); (case k4 => assumption); (case k2 => assumption); k_whole; intro h' R' _ U'; (try dsimp only at R' U' ⊢)))) | ((with_reducible show wpAny _ _ (leaving _ (Value.ref _)) _ _ _); (k_here; (refine' leave_newE ?k1 ?k0 ?k2 ?k3 ?kf ?kk ?_; (case kf => exact rfl); (case kk => exact rfl); (case k0 => assumption); (case k1 => assumption); (case k2 => assumption); (case k3 => k_asm); k_whole; intro h' R' U'; (try dsimp only at R' U' ⊢)))) | (k_here; (with_reducible show wpAny _ _ (call (Value.ref 44) [Value.str _ _]) _ _ _); (refine' sheet_call ?kB ?kF ?kX ?kT ?kc ?kk ?kr ?_; (case kc => exact rfl); (case kk => exact rfl); (case kF => k_asm); (case kB => k_asm); (case kX => k_asm); (case kT => k_asm); (case kr => (try dsimp only); omega)); (intro h' e' tk' x'); (refine' raisable_of ?kF ?kX x' ?_; (case kF => k_asm); (case kX => k_asm))) | (k_here; (with_reducible show wpAny _ _ (exec (Stmt.Raise (some (Expr.Call (Expr.Name (PySem.Str.ofString "SheetFault") _) _ _ _)) none _) _) _ _ _); refine Raise_sheetW rfl ?_) | ((with_reducible show wpAny _ _ (subscriptTail _ _ (Value.str _ _) (Value.int _ _)) _ _ _); (refine item_str (fitsSsize_of (N := 9223372036854775808) (by omega) (by omega) (Int.le_refl _)) (by omega) (by omega) ?_; intro _)) | (k_here; (with_reducible show wpAny _ _ (call (Value.builtin "len") [Value.str _ _]) _ _ _); refine P.len_str (by omega) ?_) | walk1) | (dsimp only; (first | ((with_reducible show wpAny _ _ (exec (Stmt.Assign _ (Expr.ListComp _ _ _ _) _) _) _ _ _); (k_here; lcg_calm; (refine LCg.Assign_ListComp_U (F₀ := by k_asm) (by rfl) (by with_unfolding_all rfl) (by rfl) (by decide) (by rfl) (by decide) (by rfl) (by rfl) (by rfl) ?_); k_dflt lcg_toSrc)) | ((with_reducible show wpAny _ _ (leaving _ (Value.ref _)) _ _ _); (k_here; (refine' leave_onSN ?k1 ?k2 ?k3 ?k4 ?_; (case k3 => assumption); (case k1 => assumption); (case k4 => assumption); (case k2 => assumption); k_whole; intro h' R' _ U'; (try dsimp only at R' U' ⊢)))) | ((with_reducible show wpAny _ _ (leaving _ (Value.ref _)) _ _ _); (k_here; (refine' leave_newE ?k1 ?k0 ?k2 ?k3 ?kf ?kk ?_; (case kf => exact rfl); (case kk => exact rfl); (case k0 => assumption); (case k1 => assumption); (case k2 => assumption); (case k3 => k_asm); k_whole; intro h' R' U'; (try dsimp only at R' U' ⊢)))) | (k_here; (with_reducible show wpAny _ _ (call (Value.ref 44) [Value.str _ _]) _ _ _); (refine' sheet_call ?kB ?kF ?kX ?kT ?kc ?kk ?kr ?_; (case kc => exact rfl); (case kk => exact rfl); (case kF => k_asm); (case kB => k_asm); (case kX => k_asm); (case kT => k_asm); (case kr => (try dsimp only); omega)); (intro h' e' tk' x'); (refine' raisable_of ?kF ?kX x' ?_; (case kF => k_asm); (case kX => k_asm))) | (k_here; (with_reducible show wpAny _ _ (exec (Stmt.Raise (some (Expr.Call (Expr.Name (PySem.Str.ofString "SheetFault") _) _ _ _)) none _) _) _ _ _); refine Raise_sheetW rfl ?_) | ((with_reducible show wpAny _ _ (subscriptTail _ _ (Value.str _ _) (Value.int _ _)) _ _ _); (refine item_str (fitsSsize_of (N := 9223372036854775808) (by omega) (by omega) (Int.le_refl _)) (by omega) (by omega) ?_; intro _)) | (k_here; (with_reducible show wpAny _ _ (call (Value.builtin "len") [Value.str _ _]) _ _ _); refine P.len_str (by omega) ?_) | walk1)) | fail "no step"))
    refine LCp.SrcLP.ledger (k := ys.length) (its := ys.toArray) (by rfl) F12 N12 (.head _) (by rw [List.size_toArray]; show _ ≤ 16777216; omega) ?_
    intro ga
    refine restP_ind (n := ys.toArray.size) (fun i zs nw => StrsAre zs ((ps.take i).map (·.1)) ∧ nw = (DC, LCg.lst ys) :: [(lp, W.listOf #[Value.ref D5, Value.ref D4, Value.ref D3, Value.ref D2, Value.ref D1, Value.ref D0] 0), (D0, tupO (PySem.Str.ofString "&#x3E;") (tk' + 1 + 1 + 1 + 1 + 1 + 1 + 1 + 1) (PySem.Str.ofString ">") (tk' + 1 + 1 + 1 + 1 + 1 + 1 + 1 + 1 + 1)), (D1, tupO (PySem.Str.ofString "&#65;") (tk' + 1 + 1 + 1 + 1 + 1 + 1) (PySem.Str.ofString "A") (tk' + 1 + 1 + 1 + 1 + 1 + 1 + 1)), (D2, tupO (PySem.Str.ofString "&lt;") (tk' + 1 + 1 + 1 + 1) (PySem.Str.ofString "<") (tk' + 1 + 1 + 1 + 1 + 1)), (D3, tupO o to o to), (D4, tupO (PySem.Str.ofString " > b") (tk' + 1 + 1) (PySem.Str.ofString " > b") (tk' + 1 + 1 + 1)), (D5, tupO (PySem.Str.ofString "v") tk' (PySem.Str.ofString "v") (tk' + 1)), (L' + 1 + 1, oc1), (L' + 1, oc2), (src, W.listOf #[.int p10 tp10, .int q10 tq10] k)]) ?tupa ?fina _ 0 [] _ (Nat.zero_add _) ⟨by rw [List.take_zero]; exact .nil, rfl⟩
    case tupa =>
      intro i zs nw v J hi hP
      obtain ⟨hz, rfl⟩ := J
      obtain ⟨t, r, m, tr, tm, rfl, hm, hpi⟩ := hps.get i v hP
      refine ⟨t, _, _, _, _, rfl, (.tail _ hm), rfl, rfl, ?_⟩
      intro I oI C oC D m2 h tk E' hC hx hx2 F N off ne
      iterate 2 try ((fail_if_success (with_reducible show LCg.CompEnd _ _ _ _ _ _ _ _ _ _ _ _ _ _)); (first | (k_unfold; (try dsimp only)) | (first | ((with_reducible show wpAny _ _ (exec (Stmt.Assign _ (Expr.ListComp _ _ _ _) _) _) _ _ _); (k_here; lcg_calm; (refine LCg.Assign_ListComp_U (F₀ := by k_asm) (by rfl) (by with_unfolding_all rfl) (by rfl) (by decide) (by rfl) (by decide) (by rfl) (by rfl) (by rfl) ?_); k_dflt lcg_toSrc)) | ((with_reducible show wpAny _ _ (leaving _ (Value.ref _)) _ _ _); (k_here; (refine' leave_onSN ?k1 ?k2 ?k3 ?k4 ?_; (case k3 => assumption); (case k1 => assumption); (case k4 => assumption); (case k2 => assumption); k_whole; intro h' R' _ U'; (try dsimp only at R' U' ⊢)))) | ((with_reducible show wpAny _ _ (leaving _ (Value.ref _)) _ _ _); (k_here; (refine' leave_newE ?k1 ?k0 ?k2 ?k3 ?kf ?kk ?_; (case kf => exact rfl); (case kk => exact rfl); (case k0 => assumption); (case k1 => assumption); (case k2 => assumption); (case k3 => k_asm); k_whole; intro h' R' U'; (try dsimp only at R' U' ⊢)))) | (k_here; (with_reducible show wpAny _ _ (call (Value.ref 44) [Value.str _ _]) _ _ _); (refine' sheet_call ?kB ?kF ?kX ?kT ?kc ?kk ?kr ?_; (case kc => exact rfl); (case kk => exact rfl); (case kF => k_asm); (case kB => k_asm); (case kX => k_asm); (case kT => k_asm); (case kr => (try dsimp only); omega)); (intro h' e' tk' x'); (refine' raisable_of ?kF ?kX x' ?_; (case kF => k_asm); (case kX => k_asm))) | (k_here; (with_reducible show wpAny _ _ (exec (Stmt.Raise (some (Expr.Call (Expr.Name (PySem.Str.ofString "SheetFault") _) _ _ _)) none _) _) _ _ _); refine Raise_sheetW rfl ?_) | ((with_reducible show wpAny _ _ (subscriptTail _ _ (Value.str _ _) (Value.int _ _)) _ _ _); (refine item_str (fitsSsize_of (N := 9223372036854775808) (by omega) (by omega) (Int.le_refl _)) (by omega) (by omega) ?_; intro _)) | (k_here; (with_reducible show wpAny _ _ (call (Value.builtin "len") [Value.str _ _]) _ _ _); refine P.len_str (by omega) ?_) | walk1) | (dsimp only; (first | ((with_reducible show wpAny _ _ (exec (Stmt.Assign _ (Expr.ListComp _ _ _ _) _) _) _ _ _); (k_here; lcg_calm; (refine LCg.Assign_ListComp_U (F₀ := by k_asm) (by rfl) (by with_unfolding_all rfl) (by rfl) (by decide) (by rfl) (by decide) (by rfl) (by rfl) (by rfl) ?_); k_dflt lcg_toSrc)) | ((with_reducible show wpAny _ _ (leaving _ (Value.ref _)) _ _ _); (k_here; (refine' leave_onSN ?k1 ?k2 ?k3 ?k4 ?_; (case k3 => assumption); (case k1 => assumption); (case k4 => assumption); (case k2 => assumption); k_whole; intro h' R' _ U'; (try dsimp only at R' U' ⊢)))) | ((with_reducible show wpAny _ _ (leaving _ (Value.ref _)) _ _ _); (k_here; (refine' leave_newE ?k1 ?k0 ?k2 ?k3 ?kf ?kk ?_; (case kf => exact rfl); (case kk => exact rfl); (case k0 => assumption); (case k1 => assumption); (case k2 => assumption); (case k3 => k_asm); k_whole; intro h' R' U'; (try dsimp only at R' U' ⊢)))) | (k_here; (with_reducible show wpAny _ _ (call (Value.ref 44) [Value.str _ _]) _ _ _); (refine' sheet_call ?kB ?kF ?kX ?kT ?kc ?kk ?kr ?_; (case kc => exact rfl); (case kk => exact rfl); (case kF => k_asm); (case kB => k_asm); (case kX => k_asm); (case kT => k_asm); (case kr => (try dsimp only); omega)); (intro h' e' tk' x'); (refine' raisable_of ?kF ?kX x' ?_; (case kF => k_asm); (case kX => k_asm))) | (k_here; (with_reducible show wpAny _ _ (exec (Stmt.Raise (some (Expr.Call (Expr.Name (PySem.Str.ofString "SheetFault") _) _ _ _)) none _) _) _ _ _); refine Raise_sheetW rfl ?_) | ((with_reducible show wpAny _ _ (subscriptTail _ _ (Value.str _ _) (Value.int _ _)) _ _ _); (refine item_str (fitsSsize_of (N := 9223372036854775808) (by omega) (by omega) (Int.le_refl _)) (by omega) (by omega) ?_; intro _)) | (k_here; (with_reducible show wpAny _ _ (call (Value.builtin "len") [Value.str _ _]) _ _ _); refine P.len_str (by omega) ?_) | walk1)) | fail "no step"))
      refine LCg.CompEnd.intro F N _ (fun p hp => hp) off (.inr ⟨_, (.head _), rfl, _, rfl⟩) ⟨strs_fst hz hpi, rfl⟩
    intro zsa nw J
    obtain ⟨hza, rfl⟩ := J
    intro DCa h1a tk1a F1a N1a o1a
    clear o1a
    iterate 12 try ((fail_if_success (with_reducible show wpAny _ _ (call (Value.builtin "str.join") _ _) _ _ _)); (first | (k_unfold; (try dsimp only)) | (k_end; wrow_close) | (first | ((with_reducible show wpAny _ _ (exec (Stmt.Assign _ (Expr.ListComp _ _ _ _) _) _) _ _ _); (k_here; lcg_calm; (refine LCg.Assign_ListComp_U (F₀ := by k_asm) (by rfl) (by with_unfolding_all rfl) (by rfl) (by decide) (by rfl) (by decide) (by rfl) (by rfl) (by rfl) ?_); k_dflt lcg_toSrc)) | ((with_reducible show wpAny _ _ (leaving _ (Value.ref _)) _ _ _); (k_here; (refine' leave_onSN ?k1 ?k2 ?k3 ?k4 ?_; (case k3 => assumption); (case k1 => assumption); (case k4 => assumption); (case k2 => assumption); k_whole; intro h' R' _ U'; (try dsimp only at R' U' ⊢)))) | ((with_reducible show wpAny _ _ (leaving _ (Value.ref _)) _ _ _); (k_here; (refine' leave_newE ?k1 ?k0 ?k2 ?k3 ?kf ?kk ?_; (case kf => exact rfl); (case kk => exact rfl); (case k0 => assumption); (case k1 => assumption); (case k2 => assumption); (case k3 => k_asm); k_whole; intro h' R' U'; (try dsimp only at R' U' ⊢)))) | (k_here; (with_reducible show wpAny _ _ (call (Value.ref 44) [Value.str _ _]) _ _ _); (refine' sheet_call ?kB ?kF ?kX ?kT ?kc ?kk ?kr ?_; (case kc => exact rfl); (case kk => exact rfl); (case kF => k_asm); (case kB => k_asm); (case kX => k_asm); (case kT => k_asm); (case kr => (try dsimp only); omega)); (intro h' e' tk' x'); (refine' raisable_of ?kF ?kX x' ?_; (case kF => k_asm); (case kX => k_asm))) | (k_here; (with_reducible show wpAny _ _ (exec (Stmt.Raise (some (Expr.Call (Expr.Name (PySem.Str.ofString "SheetFault") _) _ _ _)) none _) _) _ _ _); refine Raise_sheetW rfl ?_) | ((with_reducible show wpAny _ _ (subscriptTail _ _ (Value.str _ _) (Value.int _ _)) _ _ _); (refine item_str (fitsSsize_of (N := 9223372036854775808) (by omega) (by omega) (Int.le_refl _)) (by omega) (by omega) ?_; intro _)) | (k_here; (with_reducible show wpAny _ _ (call (Value.builtin "len") [Value.str _ _]) _ _ _); refine P.len_str (by omega) ?_) | walk1) | (dsimp only; (first | ((with_reducible show wpAny _ _ (exec (Stmt.Assign _ (Expr.ListComp _ _ _ _) _) _) _ _ _); (k_here; lcg_calm; (refine LCg.Assign_ListComp_U (F₀ := by k_asm) (by rfl) (by with_unfolding_all rfl) (by rfl) (by decide) (by rfl) (by decide) (by rfl) (by rfl) (by rfl) ?_); k_dflt lcg_toSrc)) | ((with_reducible show wpAny _ _ (leaving _ (Value.ref _)) _ _ _); (k_here; (refine' leave_onSN ?k1 ?k2 ?k3 ?k4 ?_; (case k3 => assumption); (case k1 => assumption); (case k4 => assumption); (case k2 => assumption); k_whole; intro h' R' _ U'; (try dsimp only at R' U' ⊢)))) | ((with_reducible show wpAny _ _ (leaving _ (Value.ref _)) _ _ _); (k_here; (refine' leave_newE ?k1 ?k0 ?k2 ?k3 ?kf ?kk ?_; (case kf => exact rfl); (case kk => exact rfl); (case k0 => assumption); (case k1 => assumption); (case k2 => assumption); (case k3 => k_asm); k_whole; intro h' R' U'; (try dsimp only at R' U' ⊢)))) | (k_here; (with_reducible show wpAny _ _ (call (Value.ref 44) [Value.str _ _]) _ _ _); (refine' sheet_call ?kB ?kF ?kX ?kT ?kc ?kk ?kr ?_; (case kc => exact rfl); (case kk => exact rfl); (case kF => k_asm); (case kB => k_asm); (case kX => k_asm); (case kT => k_asm); (case kr => (try dsimp only); omega)); (intro h' e' tk' x'); (refine' raisable_of ?kF ?kX x' ?_; (case kF => k_asm); (case kX => k_asm))) | (k_here; (with_reducible show wpAny _ _ (exec (Stmt.Raise (some (Expr.Call (Expr.Name (PySem.Str.ofString "SheetFault") _) _ _ _)) none _) _) _ _ _); refine Raise_sheetW rfl ?_) | ((with_reducible show wpAny _ _ (subscriptTail _ _ (Value.str _ _) (Value.int _ _)) _ _ _); (refine item_str (fitsSsize_of (N := 9223372036854775808) (by omega) (by omega) (Int.le_refl _)) (by omega) (by omega) ?_; intro _)) | (k_here; (with_reducible show wpAny _ _ (call (Value.builtin "len") [Value.str _ _]) _ _ _); refine P.len_str (by omega) ?_) | walk1)) | fail "no step"))
    rw [List.take_of_length_le (by rw [hpl, List.size_toArray]; exact Nat.le_refl _)] at hza
    refine join_listW (ys := ps.map (·.1)) ⟨_, (N1a _ (.head _)).1, rfl, _, rfl⟩ hza (by decide) (weight_le _ (fun p hp => (tblV_len ho p (hps.tbl p hp)).1) (by rw [hpl, hyl]; omega)) ?_
    intro ta ka
    iterate 10 try ((fail_if_success (with_reducible show wpAny _ _ (PySem.eval (Expr.ListComp _ _ _ _) _) _ _ _)); (first | (k_unfold; (try dsimp only)) | (k_end; wrow_close) | (first | ((with_reducible show wpAny _ _ (exec (Stmt.Assign _ (Expr.ListComp _ _ _ _) _) _) _ _ _); (k_here; lcg_calm; (refine LCg.Assign_ListComp_U (F₀ := by k_asm) (by rfl) (by with_unfolding_all rfl) (by rfl) (by decide) (by rfl) (by decide) (by rfl) (by rfl) (by rfl) ?_); k_dflt lcg_toSrc)) | ((with_reducible show wpAny _ _ (leaving _ (Value.ref _)) _ _ _); (k_here; (refine' leave_onSN ?k1 ?k2 ?k3 ?k4 ?_; (case k3 => assumption); (case k1 => assumption); (case k4 => assumption); (case k2 => assumption); k_whole; intro h' R' _ U'; (try dsimp only at R' U' ⊢)))) | ((with_reducible show wpAny _ _ (leaving _ (Value.ref _)) _ _ _); (k_here; (refine' leave_newE ?k1 ?k0 ?k2 ?k3 ?kf ?kk ?_; (case kf => exact rfl); (case kk => exact rfl); (case k0 => assumption); (case k1 => assumption); (case k2 => assumption); (case k3 => k_asm); k_whole; intro h' R' U'; (try dsimp only at R' U' ⊢)))) | (k_here; (with_reducible show wpAny _ _ (call (Value.ref 44) [Value.str _ _]) _ _ _); (refine' sheet_call ?kB ?kF ?kX ?kT ?kc ?kk ?kr ?_; (case kc => exact rfl); (case kk => exact rfl); (case kF => k_asm); (case kB => k_asm); (case kX => k_asm); (case kT => k_asm); (case kr => (try dsimp only); omega)); (intro h' e' tk' x'); (refine' raisable_of ?kF ?kX x' ?_; (case kF => k_asm); (case kX => k_asm))) | (k_here; (with_reducible show wpAny _ _ (exec (Stmt.Raise (some (Expr.Call (Expr.Name (PySem.Str.ofString "SheetFault") _) _ _ _)) none _) _) _ _ _); refine Raise_sheetW rfl ?_) | ((with_reducible show wpAny _ _ (subscriptTail _ _ (Value.str _ _) (Value.int _ _)) _ _ _); (refine item_str (fitsSsize_of (N := 9223372036854775808) (by omega) (by omega) (Int.le_refl _)) (by omega) (by omega) ?_; intro _)) | (k_here; (with_reducible show wpAny _ _ (call (Value.builtin "len") [Value.str _ _]) _ _ _); refine P.len_str (by omega) ?_) | walk1) | (dsimp only; (first | ((with_reducible show wpAny _ _ (exec (Stmt.Assign _ (Expr.ListComp _ _ _ _) _) _) _ _ _); (k_here; lcg_calm; (refine LCg.Assign_ListComp_U (F₀ := by k_asm) (by rfl) (by with_unfolding_all rfl) (by rfl) (by decide) (by rfl) (by decide) (by rfl) (by rfl) (by rfl) ?_); k_dflt lcg_toSrc)) | ((with_reducible show wpAny _ _ (leaving _ (Value.ref _)) _ _ _); (k_here; (refine' leave_onSN ?k1 ?k2 ?k3 ?k4 ?_; (case k3 => assumption); (case k1 => assumption); (case k4 => assumption); (case k2 => assumption); k_whole; intro h' R' _ U'; (try dsimp only at R' U' ⊢)))) | ((with_reducible show wpAny _ _ (leaving _ (Value.ref _)) _ _ _); (k_here; (refine' leave_newE ?k1 ?k0 ?k2 ?k3 ?kf ?kk ?_; (case kf => exact rfl); (case kk => exact rfl); (case k0 => assumption); (case k1 => assumption); (case k2 => assumption); (case k3 => k_asm); k_whole; intro h' R' U'; (try dsimp only at R' U' ⊢)))) | (k_here; (with_reducible show wpAny _ _ (call (Value.ref 44) [Value.str _ _]) _ _ _); (refine' sheet_call ?kB ?kF ?kX ?kT ?kc ?kk ?kr ?_; (case kc => exact rfl); (case kk => exact rfl); (case kF => k_asm); (case kB => k_asm); (case kX => k_asm); (case kT => k_asm); (case kr => (try dsimp only); omega)); (intro h' e' tk' x'); (refine' raisable_of ?kF ?kX x' ?_; (case kF => k_asm); (case kX => k_asm))) | (k_here; (with_reducible show wpAny _ _ (exec (Stmt.Raise (some (Expr.Call (Expr.Name (PySem.Str.ofString "SheetFault") _) _ _ _)) none _) _) _ _ _); refine Raise_sheetW rfl ?_) | ((with_reducible show wpAny _ _ (subscriptTail _ _ (Value.str _ _) (Value.int _ _)) _ _ _); (refine item_str (fitsSsize_of (N := 9223372036854775808) (by omega) (by omega) (Int.le_refl _)) (by omega) (by omega) ?_; intro _)) | (k_here; (with_reducible show wpAny _ _ (call (Value.builtin "len") [Value.str _ _]) _ _ _); refine P.len_str (by omega) ?_) | walk1)) | fail "no step"))
    (refine LCp.ListComp_P (F₀ := by k_asm) (by with_unfolding_all rfl) (by decide) (by rfl) (by decide) (by rfl) (by rfl) (by decide) ?_)
    iterate 4 try ((fail_if_success (with_reducible show LCp.SrcLP _ _ _ _ _ _ _ _ _ _ _ _ _ _ _)); (first | (k_unfold; (try dsimp only)) | (first | ((with_reducible show wpAny _ _ (exec (Stmt.Assign _ (Expr.ListComp _ _ _ _) _) _) _ _ _); (k_here; lcg_calm; (refine LCg.Assign_ListComp_U (F₀ := by k_asm) (by rfl) (by with_unfolding_all rfl) (by rfl) (by decide) (by rfl) (by decide) (by rfl) (by rfl) (by rfl) ?_); k_dflt lcg_toSrc)) | ((with_reducible show wpAny _ _ (leaving _ (Value.ref _)) _ _ _); (k_here; (refine' leave_onSN ?k1 ?k2 ?k3 ?k4 ?_; (case k3 => assumption); (case k1 => assumption); (case k4 => assumption); (case k2 => assumption); k_whole; intro h' R' _ U'; (try dsimp only at R' U' ⊢)))) | ((with_reducible show wpAny _ _ (leaving _ (Value.ref _)) _ _ _); (k_here; (refine' leave_newE ?k1 ?k0 ?k2 ?k3 ?kf ?kk ?_; (case kf => exact rfl); (case kk => exact rfl); (case k0 => assumption); (case k1 => assumption); (case k2 => assumption); (case k3 => k_asm); k_whole; intro h' R' U'; (try dsimp only at R' U' ⊢)))) | (k_here; (with_reducible show wpAny _ _ (call (Value.ref 44) [Value.str _ _]) _ _ _); (refine' sheet_call ?kB ?kF ?kX ?kT ?kc ?kk ?kr ?_; (case kc => exact rfl); (case kk => exact rfl); (case kF => k_asm); (case kB => k_asm); (case kX => k_asm); (case kT => k_asm); (case kr => (try dsimp only); omega)); (intro h' e' tk' x'); (refine' raisable_of ?kF ?kX x' ?_; (case kF => k_asm); (case kX => k_asm))) | (k_here; (with_reducible show wpAny _ _ (exec (Stmt.Raise (some (Expr.Call (Expr.Name (PySem.Str.ofString "SheetFault") _) _ _ _)) none _) _) _ _ _); refine Raise_sheetW rfl ?_) | ((with_reducible show wpAny _ _ (subscriptTail _ _ (Value.str _ _) (Value.int _ _)) _ _ _); (refine item_str (fitsSsize_of (N := 9223372036854775808) (by omega) (by omega) (Int.le_refl _)) (by omega) (by omega) ?_; intro _)) | (k_here; (with_reducible show wpAny _ _ (call (Value.builtin "len") [Value.str _ _]) _ _ _); refine P.len_str (by omega) ?_) | walk1) | (dsimp only; (first | ((with_reducible show wpAny _ _ (exec (Stmt.Assign _ (Expr.ListComp _ _ _ _) _) _) _ _ _); (k_here; lcg_calm; (refine LCg.Assign_ListComp_U (F₀ := by k_asm) (by rfl) (by with_unfolding_all rfl) (by rfl) (by decide) (by rfl) (by decide) (by rfl) (by rfl) (by rfl) ?_); k_dflt lcg_toSrc)) | ((with_reducible show wpAny _ _ (leaving _ (Value.ref _)) _ _ _); (k_here; (refine' leave_onSN ?k1 ?k2 ?k3 ?k4 ?_; (case k3 => assumption); (case k1 => assumption); (case k4 => assumption); (case k2 => assumption); k_whole; intro h' R' _ U'; (try dsimp only at R' U' ⊢)))) | ((with_reducible show wpAny _ _ (leaving _ (Value.ref _)) _ _ _); (k_here; (refine' leave_newE ?k1 ?k0 ?k2 ?k3 ?kf ?kk ?_; (case kf => exact rfl); (case kk => exact rfl); (case k0 => assumption); (case k1 => assumption); (case k2 => assumption); (case k3 => k_asm); k_whole; intro h' R' U'; (try dsimp only at R' U' ⊢)))) | (k_here; (with_reducible show wpAny _ _ (call (Value.ref 44) [Value.str _ _]) _ _ _); (refine' sheet_call ?kB ?kF ?kX ?kT ?kc ?kk ?kr ?_; (case kc => exact rfl); (case kk => exact rfl); (case kF => k_asm); (case kB => k_asm); (case kX => k_asm); (case kT => k_asm); (case kr => (try dsimp only); omega)); (intro h' e' tk' x'); (refine' raisable_of ?kF ?kX x' ?_; (case kF => k_asm); (case kX => k_asm))) | (k_here; (with_reducible show wpAny _ _ (exec (Stmt.Raise (some (Expr.Call (Expr.Name (PySem.Str.ofString "SheetFault") _) _ _ _)) none _) _) _ _ _); refine Raise_sheetW rfl ?_) | ((with_reducible show wpAny _ _ (subscriptTail _ _ (Value.str _ _) (Value.int _ _)) _ _ _); (refine item_str (fitsSsize_of (N := 9223372036854775808) (by omega) (by omega) (Int.le_refl _)) (by omega) (by omega) ?_; intro _)) | (k_here; (with_reducible show wpAny _ _ (call (Value.builtin "len") [Value.str _ _]) _ _ _); refine P.len_str (by omega) ?_) | walk1)) | fail "no step"))
    refine LCp.SrcLP.ledger (k := ys.length) (its := ys.toArray) (by rfl) F1a N1a (.tail _ (.head _)) (by rw [List.size_toArray]; show _ ≤ 16777216; omega) ?_
    intro gb
    refine restP_ind (n := ys.toArray.size) (fun i zs nw => StrsAre zs ((ps.take i).map (·.2)) ∧ nw = (DCa, LCg.lst zsa) :: (DC, LCg.lst ys) :: [(lp, W.listOf #[Value.ref D5, Value.ref D4, Value.ref D3, Value.ref D2, Value.ref D1, Value.ref D0] 0), (D0, tupO (PySem.Str.ofString "&#x3E;") (tk' + 1 + 1 + 1 + 1 + 1 + 1 + 1 + 1) (PySem.Str.ofString ">") (tk' + 1 + 1 + 1 + 1 + 1 + 1 + 1 + 1 + 1)), (D1, tupO (PySem.Str.ofString "&#65;") (tk' + 1 + 1 + 1 + 1 + 1 + 1) (PySem.Str.ofString "A") (tk' + 1 + 1 + 1 + 1 + 1 + 1 + 1)), (D2, tupO (PySem.Str.ofString "&lt;") (tk' + 1 + 1 + 1 + 1) (PySem.Str.ofString "<") (tk' + 1 + 1 + 1 + 1 + 1)), (D3, tupO o to o to), (D4, tupO (PySem.Str.ofString " > b") (tk' + 1 + 1) (PySem.Str.ofString " > b") (tk' + 1 + 1 + 1)), (D5, tupO (PySem.Str.ofString "v") tk' (PySem.Str.ofString "v") (tk' + 1)), (L' + 1 + 1, oc1), (L' + 1, oc2), (src, W.listOf #[.int p10 tp10, .int q10 tq10] k)]) ?tupb ?finb _ 0 [] _ (Nat.zero_add _) ⟨by rw [List.take_zero]; exact .nil, rfl⟩
    case tupb =>
      intro i zs nw v J hi hP
      obtain ⟨hz, rfl⟩ := J
      obtain ⟨t, r, m, tr, tm, rfl, hm, hpi⟩ := hps.get i v hP
      refine ⟨t, _, _, _, _, rfl, (.tail _ (.tail _ hm)), rfl, rfl, ?_⟩
      intro I oI C oC D m2 h tk E' hC hx hx2 F N off ne
      iterate 2 try ((fail_if_success (with_reducible show LCg.CompEnd _ _ _ _ _ _ _ _ _ _ _ _ _ _)); (first | (k_unfold; (try dsimp only)) | (first | ((with_reducible show wpAny _ _ (exec (Stmt.Assign _ (Expr.ListComp _ _ _ _) _) _) _ _ _); (k_here; lcg_calm; (refine LCg.Assign_ListComp_U (F₀ := by k_asm) (by rfl) (by with_unfolding_all rfl) (by rfl) (by decide) (by rfl) (by decide) (by rfl) (by rfl) (by rfl) ?_); k_dflt lcg_toSrc)) | ((with_reducible show wpAny _ _ (leaving _ (Value.ref _)) _ _ _); (k_here; (refine' leave_onSN ?k1 ?k2 ?k3 ?k4 ?_; (case k3 => assumption); (case k1 => assumption); (case k4 => assumption); (case k2 => assumption); k_whole; intro h' R' _ U'; (try dsimp only at R' U' ⊢)))) | ((with_reducible show wpAny _ _ (leaving _ (Value.ref _)) _ _ _); (k_here; (refine' leave_newE ?k1 ?k0 ?k2 ?k3 ?kf ?kk ?_; (case kf => exact rfl); (case kk => exact rfl); (case k0 => assumption); (case k1 => assumption); (case k2 => assumption); (case k3 => k_asm); k_whole; intro h' R' U'; (try dsimp only at R' U' ⊢)))) | (k_here; (with_reducible show wpAny _ _ (call (Value.ref 44) [Value.str _ _]) _ _ _); (refine' sheet_call ?kB ?kF ?kX ?kT ?kc ?kk ?kr ?_; (case kc => exact rfl); (case kk => exact rfl); (case kF => k_asm); (case kB => k_asm); (case kX => k_asm); (case kT => k_asm); (case kr => (try dsimp only); omega)); (intro h' e' tk' x'); (refine' raisable_of ?kF ?kX x' ?_; (case kF => k_asm); (case kX => k_asm))) | (k_here; (with_reducible show wpAny _ _ (exec (Stmt.Raise (some (Expr.Call (Expr.Name (PySem.Str.ofString "SheetFault") _) _ _ _)) none _) _) _ _ _); refine Raise_sheetW rfl ?_) | ((with_reducible show wpAny _ _ (subscriptTail _ _ (Value.str _ _) (Value.int _ _)) _ _ _); (refine item_str (fitsSsize_of (N := 9223372036854775808) (by omega) (by omega) (Int.le_refl _)) (by omega) (by omega) ?_; intro _)) | (k_here; (with_reducible show wpAny _ _ (call (Value.builtin "len") [Value.str _ _]) _ _ _); refine P.len_str (by omega) ?_) | walk1) | (dsimp only; (first | ((with_reducible show wpAny _ _ (exec (Stmt.Assign _ (Expr.ListComp _ _ _ _) _) _) _ _ _); (k_here; lcg_calm; (refine LCg.Assign_ListComp_U (F₀ := by k_asm) (by rfl) (by with_unfolding_all rfl) (by rfl) (by decide) (by rfl) (by decide) (by rfl) (by rfl) (by rfl) ?_); k_dflt lcg_toSrc)) | ((with_reducible show wpAny _ _ (leaving _ (Value.ref _)) _ _ _); (k_here; (refine' leave_onSN ?k1 ?k2 ?k3 ?k4 ?_; (case k3 => assumption); (case k1 => assumption); (case k4 => assumption); (case k2 => assumption); k_whole; intro h' R' _ U'; (try dsimp only at R' U' ⊢)))) | ((with_reducible show wpAny _ _ (leaving _ (Value.ref _)) _ _ _); (k_here; (refine' leave_newE ?k1 ?k0 ?k2 ?k3 ?kf ?kk ?_; (case kf => exact rfl); (case kk => exact rfl); (case k0 => assumption); (case k1 => assumption); (case k2 => assumption); (case k3 => k_asm); k_whole; intro h' R' U'; (try dsimp only at R' U' ⊢)))) | (k_here; (with_reducible show wpAny _ _ (call (Value.ref 44) [Value.str _ _]) _ _ _); (refine' sheet_call ?kB ?kF ?kX ?kT ?kc ?kk ?kr ?_; (case kc => exact rfl); (case kk => exact rfl); (case kF => k_asm); (case kB => k_asm); (case kX => k_asm); (case kT => k_asm); (case kr => (try dsimp only); omega)); (intro h' e' tk' x'); (refine' raisable_of ?kF ?kX x' ?_; (case kF => k_asm); (case kX => k_asm))) | (k_here; (with_reducible show wpAny _ _ (exec (Stmt.Raise (some (Expr.Call (Expr.Name (PySem.Str.ofString "SheetFault") _) _ _ _)) none _) _) _ _ _); refine Raise_sheetW rfl ?_) | ((with_reducible show wpAny _ _ (subscriptTail _ _ (Value.str _ _) (Value.int _ _)) _ _ _); (refine item_str (fitsSsize_of (N := 9223372036854775808) (by omega) (by omega) (Int.le_refl _)) (by omega) (by omega) ?_; intro _)) | (k_here; (with_reducible show wpAny _ _ (call (Value.builtin "len") [Value.str _ _]) _ _ _); refine P.len_str (by omega) ?_) | walk1)) | fail "no step"))
      refine LCg.CompEnd.intro F N _ (fun p hp => hp) off (.inr ⟨_, (.tail _ (.head _)), rfl, _, rfl⟩) ⟨strs_snd hz hpi, rfl⟩
    intro zsb nw J
    obtain ⟨hzb, rfl⟩ := J
    intro DCb h1b tk1b F1b N1b o1b
    clear o1b
    iterate 12 try ((fail_if_success (with_reducible show wpAny _ _ (call (Value.builtin "str.join") _ _) _ _ _)); (first | (k_unfold; (try dsimp only)) | (k_end; wrow_close) | (first | ((with_reducible show wpAny _ _ (exec (Stmt.Assign _ (Expr.ListComp _ _ _ _) _) _) _ _ _); (k_here; lcg_calm; (refine LCg.Assign_ListComp_U (F₀ := by k_asm) (by rfl) (by with_unfolding_all rfl) (by rfl) (by decide) (by rfl) (by decide) (by rfl) (by rfl) (by rfl) ?_); k_dflt lcg_toSrc)) | ((with_reducible show wpAny _ _ (leaving _ (Value.ref _)) _ _ _); (k_here; (refine' leave_onSN ?k1 ?k2 ?k3 ?k4 ?_; (case k3 => assumption); (case k1 => assumption); (case k4 => assumption); (case k2 => assumption); k_whole; intro h' R' _ U'; (try dsimp only at R' U' ⊢)))) | ((with_reducible show wpAny _ _ (leaving _ (Value.ref _)) _ _ _); (k_here; (refine' leave_newE ?k1 ?k0 ?k2 ?k3 ?kf ?kk ?_; (case kf => exact rfl); (case kk => exact rfl); (case k0 => assumption); (case k1 => assumption); (case k2 => assumption); (case k3 => k_asm); k_whole; intro h' R' U'; (try dsimp only at R' U' ⊢)))) | (k_here; (with_reducible show wpAny _ _ (call (Value.ref 44) [Value.str _ _]) _ _ _); (refine' sheet_call ?kB ?kF ?kX ?kT ?kc ?kk ?kr ?_; (case kc => exact rfl); (case kk => exact rfl); (case kF => k_asm); (case kB => k_asm); (case kX => k_asm); (case kT => k_asm); (case kr => (try dsimp only); omega)); (intro h' e' tk' x'); (refine' raisable_of ?kF ?kX x' ?_; (case kF => k_asm); (case kX => k_asm))) | (k_here; (with_reducible show wpAny _ _ (exec (Stmt.Raise (some (Expr.Call (Expr.Name (PySem.Str.ofString "SheetFault") _) _ _ _)) none _) _) _ _ _); refine Raise_sheetW rfl ?_) | ((with_reducible show wpAny _ _ (subscriptTail _ _ (Value.str _ _) (Value.int _ _)) _ _ _); (refine item_str (fitsSsize_of (N := 9223372036854775808) (by omega) (by omega) (Int.le_refl _)) (by omega) (by omega) ?_; intro _)) | (k_here; (with_reducible show wpAny _ _ (call (Value.builtin "len") [Value.str _ _]) _ _ _); refine P.len_str (by omega) ?_) | walk1) | (dsimp only; (first | ((with_reducible show wpAny _ _ (exec (Stmt.Assign _ (Expr.ListComp _ _ _ _) _) _) _ _ _); (k_here; lcg_calm; (refine LCg.Assign_ListComp_U (F₀ := by k_asm) (by rfl) (by with_unfolding_all rfl) (by rfl) (by decide) (by rfl) (by decide) (by rfl) (by rfl) (by rfl) ?_); k_dflt lcg_toSrc)) | ((with_reducible show wpAny _ _ (leaving _ (Value.ref _)) _ _ _); (k_here; (refine' leave_onSN ?k1 ?k2 ?k3 ?k4 ?_; (case k3 => assumption); (case k1 => assumption); (case k4 => assumption); (case k2 => assumption); k_whole; intro h' R' _ U'; (try dsimp only at R' U' ⊢)))) | ((with_reducible show wpAny _ _ (leaving _ (Value.ref _)) _ _ _); (k_here; (refine' leave_newE ?k1 ?k0 ?k2 ?k3 ?kf ?kk ?_; (case kf => exact rfl); (case kk => exact rfl); (case k0 => assumption); (case k1 => assumption); (case k2 => assumption); (case k3 => k_asm); k_whole; intro h' R' U'; (try dsimp only at R' U' ⊢)))) | (k_here; (with_reducible show wpAny _ _ (call (Value.ref 44) [Value.str _ _]) _ _ _); (refine' sheet_call ?kB ?kF ?kX ?kT ?kc ?kk ?kr ?_; (case kc => exact rfl); (case kk => exact rfl); (case kF => k_asm); (case kB => k_asm); (case kX => k_asm); (case kT => k_asm); (case kr => (try dsimp only); omega)); (intro h' e' tk' x'); (refine' raisable_of ?kF ?kX x' ?_; (case kF => k_asm); (case kX => k_asm))) | (k_here; (with_reducible show wpAny _ _ (exec (Stmt.Raise (some (Expr.Call (Expr.Name (PySem.Str.ofString "SheetFault") _) _ _ _)) none _) _) _ _ _); refine Raise_sheetW rfl ?_) | ((with_reducible show wpAny _ _ (subscriptTail _ _ (Value.str _ _) (Value.int _ _)) _ _ _); (refine item_str (fitsSsize_of (N := 9223372036854775808) (by omega) (by omega) (Int.le_refl _)) (by omega) (by omega) ?_; intro _)) | (k_here; (with_reducible show wpAny _ _ (call (Value.builtin "len") [Value.str _ _]) _ _ _); refine P.len_str (by omega) ?_) | walk1)) | fail "no step"))
    rw [List.take_of_length_le (by rw [hpl, List.size_toArray]; exact Nat.le_refl _)] at hzb
    refine join_listW (ys := ps.map (·.2)) ⟨_, (N1b _ (.head _)).1, rfl, _, rfl⟩ hzb (by decide) (weight_le _ (fun p hp => (tblV_len ho p (hps.tbl p hp)).2) (by rw [hpl, hyl]; omega)) ?_
    intro tb kb
    iterate 12 try (fail_if_success (show R (.ok (.ret _)) _)); (first | (k_unfold; (try dsimp only)) | (k_end; wrow_close) | (first | ((with_reducible show wpAny _ _ (exec (Stmt.Assign _ (Expr.ListComp _ _ _ _) _) _) _ _ _); (k_here; lcg_calm; (refine LCg.Assign_ListComp_U (F₀ := by k_asm) (by rfl) (by with_unfolding_all rfl) (by rfl) (by decide) (by rfl) (by decide) (by rfl) (by rfl) (by rfl) ?_); k_dflt lcg_toSrc)) | ((with_reducible show wpAny _ _ (leaving _ (Value.ref _)) _ _ _); (k_here; (refine' leave_onSN ?k1 ?k2 ?k3 ?k4 ?_; (case k3 => assumption); (case k1 => assumption); (case k4 => assumption); (case k2 => assumption); k_whole; intro h' R' _ U'; (try dsimp only at R' U' ⊢)))) | ((with_reducible show wpAny _ _ (leaving _ (Value.ref _)) _ _ _); (k_here; (refine' leave_newE ?k1 ?k0 ?k2 ?k3 ?kf ?kk ?_; (case kf => exact rfl); (case kk => exact rfl); (case k0 => assumption); (case k1 => assumption); (case k2 => assumption); (case k3 => k_asm); k_whole; intro h' R' U'; (try dsimp only at R' U' ⊢)))) | (k_here; (with_reducible show wpAny _ _ (call (Value.ref 44) [Value.str _ _]) _ _ _); (refine' sheet_call ?kB ?kF ?kX ?kT ?kc ?kk ?kr ?_; (case kc => exact rfl); (case kk => exact rfl); (case kF => k_asm); (case kB => k_asm); (case kX => k_asm); (case kT => k_asm); (case kr => (try dsimp only); omega)); (intro h' e' tk' x'); (refine' raisable_of ?kF ?kX x' ?_; (case kF => k_asm); (case kX => k_asm))) | (k_here; (with_reducible show wpAny _ _ (exec (Stmt.Raise (some (Expr.Call (Expr.Name (PySem.Str.ofString "SheetFault") _) _ _ _)) none _) _) _ _ _); refine Raise_sheetW rfl ?_) | ((with_reducible show wpAny _ _ (subscriptTail _ _ (Value.str _ _) (Value.int _ _)) _ _ _); (refine item_str (fitsSsize_of (N := 9223372036854775808) (by omega) (by omega) (Int.le_refl _)) (by omega) (by omega) ?_; intro _)) | (k_here; (with_reducible show wpAny _ _ (call (Value.builtin "len") [Value.str _ _]) _ _ _); refine P.len_str (by omega) ?_) | walk1) | (dsimp only; (first | ((with_reducible show wpAny _ _ (exec (Stmt.Assign _ (Expr.ListComp _ _ _ _) _) _) _ _ _); (k_here; lcg_calm; (refine LCg.Assign_ListComp_U (F₀ := by k_asm) (by rfl) (by with_unfolding_all rfl) (by rfl) (by decide) (by rfl) (by decide) (by rfl) (by rfl) (by rfl) ?_); k_dflt lcg_toSrc)) | ((with_reducible show wpAny _ _ (leaving _ (Value.ref _)) _ _ _); (k_here; (refine' leave_onSN ?k1 ?k2 ?k3 ?k4 ?_; (case k3 => assumption); (case k1 => assumption); (case k4 => assumption); (case k2 => assumption); k_whole; intro h' R' _ U'; (try dsimp only at R' U' ⊢)))) | ((with_reducible show wpAny _ _ (leaving _ (Value.ref _)) _ _ _); (k_here; (refine' leave_newE ?k1 ?k0 ?k2 ?k3 ?kf ?kk ?_; (case kf => exact rfl); (case kk => exact rfl); (case k0 => assumption); (case k1 => assumption); (case k2 => assumption); (case k3 => k_asm); k_whole; intro h' R' U'; (try dsimp only at R' U' ⊢)))) | (k_here; (with_reducible show wpAny _ _ (call (Value.ref 44) [Value.str _ _]) _ _ _); (refine' sheet_call ?kB ?kF ?kX ?kT ?kc ?kk ?kr ?_; (case kc => exact rfl); (case kk => exact rfl); (case kF => k_asm); (case kB => k_asm); (case kX => k_asm); (case kT => k_asm); (case kr => (try dsimp only); omega)); (intro h' e' tk' x'); (refine' raisable_of ?kF ?kX x' ?_; (case kF => k_asm); (case kX => k_asm))) | (k_here; (with_reducible show wpAny _ _ (exec (Stmt.Raise (some (Expr.Call (Expr.Name (PySem.Str.ofString "SheetFault") _) _ _ _)) none _) _) _ _ _); refine Raise_sheetW rfl ?_) | ((with_reducible show wpAny _ _ (subscriptTail _ _ (Value.str _ _) (Value.int _ _)) _ _ _); (refine item_str (fitsSsize_of (N := 9223372036854775808) (by omega) (by omega) (Int.le_refl _)) (by omega) (by omega) ?_; intro _)) | (k_here; (with_reducible show wpAny _ _ (call (Value.builtin "len") [Value.str _ _]) _ _ _); refine P.len_str (by omega) ?_) | walk1)) | fail "no step")
    show R (.ok (.ret _)) _
    (with_reducible rename News _ _ _ _ => N20)
    refine hok _ _ _ _ ⟨_, _, _, _, _, p10, q10, tp10, tq10, ps, rfl, by k_ne, by rw [hpl, hyl]; omega, hps.tbl, join_cs _, join_cs _, c1, c2, c3, rfl⟩ (Fr.keep (by assumption)) (fun r hr => new_of N20 r ((List.mem_cons.mp hr).elim (fun e => by rw [e]; exact .head _) fun e => by rw [List.mem_singleton.mp e]; k_mem))
  intro i ys nw v9 I9 oI9 C9 oC9 DD9 m9 h10 tk10 E9 J hi9 hP9 hC9 hx9 F10 N10 off9 ne9
  obtain ⟨hyl, hys, p10, q10, tp10, tq10, c1, c2, c3, rfl⟩ := J
  (simp only [LCg.Off3, and_true] at off9)
  clear hP9
  iterate 20 try ((fail_if_success (with_reducible show wpAny _ _ (call (Value.ref 142) _ _) _ _ _)); (first | (k_unfold; (try dsimp only)) | (k_end; wrow_close) | (first | ((with_reducible show wpAny _ _ (exec (Stmt.Assign _ (Expr.ListComp _ _ _ _) _) _) _ _ _); (k_here; lcg_calm; (refine LCg.Assign_ListComp_U (F₀ := by k_asm) (by rfl) (by with_unfolding_all rfl) (by rfl) (by decide) (by rfl) (by decide) (by rfl) (by rfl) (by rfl) ?_); k_dflt lcg_toSrc)) | ((with_reducible show wpAny _ _ (leaving _ (Value.ref _)) _ _ _); (k_here; (refine' leave_onSN ?k1 ?k2 ?k3 ?k4 ?_; (case k3 => assumption); (case k1 => assumption); (case k4 => assumption); (case k2 => assumption); k_whole; intro h' R' _ U'; (try dsimp only at R' U' ⊢)))) | ((with_reducible show wpAny _ _ (leaving _ (Value.ref _)) _ _ _); (k_here; (refine' leave_newE ?k1 ?k0 ?k2 ?k3 ?kf ?kk ?_; (case kf => exact rfl); (case kk => exact rfl); (case k0 => assumption); (case k1 => assumption); (case k2 => assumption); (case k3 => k_asm); k_whole; intro h' R' U'; (try dsimp only at R' U' ⊢)))) | (k_here; (with_reducible show wpAny _ _ (call (Value.ref 44) [Value.str _ _]) _ _ _); (refine' sheet_call ?kB ?kF ?kX ?kT ?kc ?kk ?kr ?_; (case kc => exact rfl); (case kk => exact rfl); (case kF => k_asm); (case kB => k_asm); (case kX => k_asm); (case kT => k_asm); (case kr => (try dsimp only); omega)); (intro h' e' tk' x'); (refine' raisable_of ?kF ?kX x' ?_; (case kF => k_asm); (case kX => k_asm))) | (k_here; (with_reducible show wpAny _ _ (exec (Stmt.Raise (some (Expr.Call (Expr.Name (PySem.Str.ofString "SheetFault") _) _ _ _)) none _) _) _ _ _); refine Raise_sheetW rfl ?_) | ((with_reducible show wpAny _ _ (subscriptTail _ _ (Value.str _ _) (Value.int _ _)) _ _ _); (refine item_str (fitsSsize_of (N := 9223372036854775808) (by omega) (by omega) (Int.le_refl _)) (by omega) (by omega) ?_; intro _)) | (k_here; (with_reducible show wpAny _ _ (call (Value.builtin "len") [Value.str _ _]) _ _ _); refine P.len_str (by omega) ?_) | walk1) | (dsimp only; (first | ((with_reducible show wpAny _ _ (exec (Stmt.Assign _ (Expr.ListComp _ _ _ _) _) _) _ _ _); (k_here; lcg_calm; (refine LCg.Assign_ListComp_U (F₀ := by k_asm) (by rfl) (by with_unfolding_all rfl) (by rfl) (by decide) (by rfl) (by decide) (by rfl) (by rfl) (by rfl) ?_); k_dflt lcg_toSrc)) | ((with_reducible show wpAny _ _ (leaving _ (Value.ref _)) _ _ _); (k_here; (refine' leave_onSN ?k1 ?k2 ?k3 ?k4 ?_; (case k3 => assumption); (case k1 => assumption); (case k4 => assumption); (case k2 => assumption); k_whole; intro h' R' _ U'; (try dsimp only at R' U' ⊢)))) | ((with_reducible show wpAny _ _ (leaving _ (Value.ref _)) _ _ _); (k_here; (refine' leave_newE ?k1 ?k0 ?k2 ?k3 ?kf ?kk ?_; (case kf => exact rfl); (case kk => exact rfl); (case k0 => assumption); (case k1 => assumption); (case k2 => assumption); (case k3 => k_asm); k_whole; intro h' R' U'; (try dsimp only at R' U' ⊢)))) | (k_here; (with_reducible show wpAny _ _ (call (Value.ref 44) [Value.str _ _]) _ _ _); (refine' sheet_call ?kB ?kF ?kX ?kT ?kc ?kk ?kr ?_; (case kc => exact rfl); (case kk => exact rfl); (case kF => k_asm); (case kB => k_asm); (case kX => k_asm); (case kT => k_asm); (case kr => (try dsimp only); omega)); (intro h' e' tk' x'); (refine' raisable_of ?kF ?kX x' ?_; (case kF => k_asm); (case kX => k_asm))) | (k_here; (with_reducible show wpAny _ _ (exec (Stmt.Raise (some (Expr.Call (Expr.Name (PySem.Str.ofString "SheetFault") _) _ _ _)) none _) _) _ _ _); refine Raise_sheetW rfl ?_) | ((with_reducible show wpAny _ _ (subscriptTail _ _ (Value.str _ _) (Value.int _ _)) _ _ _); (refine item_str (fitsSsize_of (N := 9223372036854775808) (by omega) (by omega) (Int.le_refl _)) (by omega) (by omega) ?_; intro _)) | (k_here; (with_reducible show wpAny _ _ (call (Value.builtin "len") [Value.str _ _]) _ _ _); refine P.len_str (by omega) ?_) | walk1)) | fail "no step"))
  (refine' one_callU ?kF ?kB ?kX ?kN ?kT rfl rfl ?kd ?ku ?kU ?km ?kne ?kp ?kq ?kq2 ?k1 ?k2 ?_; (case kF => k_asm); (case kB => k_asm); (case kX => k_asm); (case kN => k_asm); (case kT => k_asm); (case kd => omega); (case ku => omega); (case kU => k_updF); (case km => k_mem); (case kne => k_ne); (case kp => assumption); (case kq => assumption); (case kq2 => assumption); (case k1 => exact Nat.le_of_ble_eq_true rfl); (case k2 => exact Nat.le_of_ble_eq_true rfl))
  intro v11 p11 q11 tp11 tq11 h11 tk11 hv11 d1 d2 d3 F11 N11
  (try dsimp only at N11)
  refine LCg.CompEnd.intro F11 N11 _ (fun p hp => hp) (by simpa only [LCg.Off3, and_true] using off9) trivial ⟨by rw [List.length_append, hyl]; rfl, fun y hy => (List.mem_append.mp hy).elim (fun z => hys y z) (fun z => by rw [List.mem_singleton.mp z]; exact hv11), p11, q11, tp11, tq11, d1, d2, d3, rfl⟩
end

section
open PySem PySem.W PySem.Calls PyProof.Rows PySem.Spec
set_option maxRecDepth 100000
set_option maxHeartbeats 4000000

theorem fill_wrong (w : World) : PySem.Challenge.rw_xm0717_01.prog = PySem.Challenge.rw_xm0717_01.prog ∧ hd.heap_39 w.params = hd.heap_39 w.params := by k_fill; exact ⟨rfl, rfl⟩


theorem str_pick {v : Value} {vs : List Value} {xs : List PySem.Str} (hv : v ∈ vs) (h : StrsAre vs xs) : ∃ x t, x ∈ xs ∧ v = .str x t := by
  induction h with
  | nil => cases hv
  | cons y t _ ih =>
    rcases List.mem_cons.mp hv with rfl | hv
    · exact ⟨y, t, .head _, rfl⟩
    · obtain ⟨x, t, hx, e⟩ := ih hv
      exact ⟨x, t, .tail _ hx, e⟩
def menuA : List PySem.Str := [PySem.Str.ofString "", PySem.Str.ofString " k", PySem.Str.ofString "/", PySem.Str.ofString ">", PySem.Str.ofString "1k", PySem.Str.ofString "-k", PySem.Str.ofString "&k", PySem.Str.ofString "#", PySem.Str.ofString "'k'"]
def menuB (sg wh : PySem.Str) : List PySem.Str := [PySem.Str.ofString "", wh, PySem.Str.ofString ">", (PySem.Str.ofString "/") ++ sg ++ wh, (PySem.Str.ofString " x") ++ sg ++ wh, PySem.Str.ofString "<"]
def menuC (wh : PySem.Str) : List PySem.Str := [PySem.Str.ofString "", PySem.Str.ofString "v", PySem.Str.ofString ">", (PySem.Str.ofString "-") ++ wh, PySem.Str.ofString "&quot;v&quot;"]
def menuD : List PySem.Str := [PySem.Str.ofString "&x;", PySem.Str.ofString "&#0;", PySem.Str.ofString "&;", PySem.Str.ofString "&lt", PySem.Str.ofString "& ;"]
/-- a text that is wrong -/
inductive WrongT (nm sg qu raw : PySem.Str) : PySem.Str → Prop
  | a {x : PySem.Str} : x ∈ menuA → WrongT nm sg qu raw (x ++ sg ++ (qu ++ raw ++ qu))
  | b {x : PySem.Str} : x ∈ menuB sg (qu ++ raw ++ qu) → WrongT nm sg qu raw (nm ++ x)
  | c {x : PySem.Str} : x ∈ menuC (qu ++ raw ++ qu) → WrongT nm sg qu raw (nm ++ sg ++ x)
  | noend : WrongT nm sg qu raw (nm ++ sg ++ qu ++ raw)
  | tag : WrongT nm sg qu raw (nm ++ sg ++ qu ++ raw ++ PySem.Str.ofString "<" ++ raw ++ qu)
  | d {x : PySem.Str} : x ∈ menuD → WrongT nm sg qu raw (nm ++ sg ++ qu ++ raw ++ x ++ qu)
theorem menuA_len : ∀ x ∈ menuA, x.length ≤ 10 := by decide +kernel
theorem menuD_len : ∀ x ∈ menuD, x.length ≤ 10 := by decide +kernel
theorem whole_len {qu raw : PySem.Str} (hu : qu.length ≤ 10) (hr : raw.length ≤ 100) : (qu ++ raw ++ qu).length ≤ 120 := by
  rw [PySem.Str.length_append, PySem.Str.length_append]
  omega
theorem menuB_len {nm sg wh : PySem.Str} (_ : nm.length ≤ 10) (hs : sg.length ≤ 10) (hw : wh.length ≤ 120) : ∀ x ∈ menuB sg wh, x.length ≤ 140 := by
  intro x hx
  unfold menuB at hx
  have e1 : (PySem.Str.ofString "/").length = 1 := by decide +kernel
  have e2 : (PySem.Str.ofString " x").length = 2 := by decide +kernel
  simp only [List.mem_cons, List.not_mem_nil, or_false] at hx
  rcases hx with rfl | rfl | rfl | rfl | rfl | rfl
  · decide +kernel
  · omega
  · decide +kernel
  · rw [PySem.Str.length_append, PySem.Str.length_append]; omega
  · rw [PySem.Str.length_append, PySem.Str.length_append]; omega
  · decide +kernel
theorem menuC_len {wh : PySem.Str} (hw : wh.length ≤ 120) : ∀ x ∈ menuC wh, x.length ≤ 140 := by
  intro x hx
  unfold menuC at hx
  have e1 : (PySem.Str.ofString "-").length = 1 := by decide +kernel
  simp only [List.mem_cons, List.not_mem_nil, or_false] at hx
  rcases hx with rfl | rfl | rfl | rfl | rfl
  · decide +kernel
  · decide +kernel
  · decide +kernel
  · rw [PySem.Str.length_append]; omega
  · decide +kernel
theorem WrongT.len {nm sg qu raw x : PySem.Str} (hn : nm.length ≤ 10) (hs : sg.length ≤ 10) (hu : qu.length ≤ 10) (hr : raw.length ≤ 100) (h : WrongT nm sg qu raw x) : x.length ≤ 1000 := by
  have e1 : (PySem.Str.ofString "<").length = 1 := by decide +kernel
  cases h with
  | a h => have := menuA_len _ h; simp only [PySem.Str.length_append]; omega
  | b h => have := menuB_len hn hs (whole_len hu hr) _ h; simp only [PySem.Str.length_append]; omega
  | c h => have := menuC_len (whole_len hu hr) _ h; simp only [PySem.Str.length_append]; omega
  | noend => simp only [PySem.Str.length_append]; omega
  | tag => simp only [PySem.Str.length_append]; omega
  | d h => have := menuD_len _ h; simp only [PySem.Str.length_append]; omega

theorem wrong_ctr {src : Addr} {p q : Int} {tp tq tn ts tu tr : Tok} {nm sg qu raw : PySem.Str} {k : Nat} (hp : 0 ≤ p) (hq : 0 ≤ q) (hq2 : q < 2147483647) (hn : nm.length ≤ 10) (hs : sg.length ≤ 10) (hu : qu.length ≤ 10) (hr : raw.length ≤ 100) :
    Ctr 20 168 [.ref src, .str nm tn, .str sg ts, .str qu tu, .str raw tr] [(src, W.listOf #[.int p tp, .int q tq] k)]
      (fun _ v l => ∃ (wr : Addr) (x0 x1 x2 x3 x4 x5 : PySem.Str) (t0 t1 t2 t3 t4 t5 : Tok) (p' q' : Int) (tp' tq' : Tok), v = .ref wr ∧ @Ne Nat wr src ∧ (∀ x ∈ [x0, x1, x2, x3, x4, x5], WrongT nm sg qu raw x) ∧ 0 ≤ p' ∧ 0 ≤ q' ∧ q' < 2147483647 ∧
        l = [(wr, W.listOf #[.str x0 t0, .str x1 t1, .str x2 t2, .str x3 t3, .str x4 t4, .str x5 t5] 0), (src, W.listOf #[.int p' tp', .int q' tq'] k)]) (fun _ => False) := by
  intro w mean mg mb d u gs base outer g s S hdp hup R hok her
  have hfill : PySem.Challenge.rw_xm0717_01.prog = PySem.Challenge.rw_xm0717_01.prog ∧ hd.heap_39 w.params = hd.heap_39 w.params := by k_fill; exact ⟨rfl, rfl⟩
  clear hfill
  have B := S.below
  have X := S.kin
  have T0 := S.top
  refine' enter (binds := [(PySem.Str.ofString "source", .ref src), (PySem.Str.ofString "name", .str nm tn), (PySem.Str.ofString "sign", .str sg ts), (PySem.Str.ofString "quote", .str qu tu), (PySem.Str.ofString "raw", .str raw tr)]) S ?k6 ?k7 ?k8 ?k9 ?kB ?_ ?c2 ?c3 ?c4 ?c5; (case k6 => k_is); (case k7 => k_is); (case k8 => k_room); (case k9 => exact BindsTo.of_eq rfl); (case c5 => decide); (case kB => exact locs rfl); (case c2 => exact rfl); (case c3 => exact rfl); (case c4 => exact rfl)
  intro L' h₁ F N
  clear S
  show wpAny _ _ _ _ _ _
  k_fold
  iterate 120 try ((fail_if_success (with_reducible show wpAny _ _ (call (Value.ref 142) _ _) _ _ _)); (first | (k_unfold; (try dsimp only)) | (k_end; wrow_close) | (first | ((with_reducible show wpAny _ _ (leaving _ (Value.ref _)) _ _ _); (k_here; (refine' leave_onSN ?k1 ?k2 ?k3 ?k4 ?_; (case k3 => assumption); (case k1 => assumption); (case k4 => assumption); (case k2 => assumption); k_whole; intro h' R' _ U'; (try dsimp only at R' U' ⊢)))) | ((with_reducible show wpAny _ _ (leaving _ (Value.ref _)) _ _ _); (k_here; (refine' leave_newE ?k1 ?k0 ?k2 ?k3 ?kf ?kk ?_; (case kf => exact rfl); (case kk => exact rfl); (case k0 => assumption); (case k1 => assumption); (case k2 => assumption); (case k3 => k_asm); k_whole; intro h' R' U'; (try dsimp only at R' U' ⊢)))) | (k_here; (with_reducible show wpAny _ _ (call (Value.ref 44) [Value.str _ _]) _ _ _); (refine' sheet_call ?kB ?kF ?kX ?kT ?kc ?kk ?kr ?_; (case kc => exact rfl); (case kk => exact rfl); (case kF => k_asm); (case kB => k_asm); (case kX => k_asm); (case kT => k_asm); (case kr => (try dsimp only); omega)); (intro h' e' tk' x'); (refine' raisable_of ?kF ?kX x' ?_; (case kF => k_asm); (case kX => k_asm))) | (k_here; (with_reducible show wpAny _ _ (exec (Stmt.Raise (some (Expr.Call (Expr.Name (PySem.Str.ofString "SheetFault") _) _ _ _)) none _) _) _ _ _); refine Raise_sheetW rfl ?_) | ((with_reducible show wpAny _ _ (subscriptTail _ _ (Value.str _ _) (Value.int _ _)) _ _ _); (refine item_str (fitsSsize_of (N := 9223372036854775808) (by omega) (by omega) (Int.le_refl _)) (by omega) (by omega) ?_; intro _)) | (k_here; (with_reducible show wpAny _ _ (call (Value.builtin "len") [Value.str _ _]) _ _ _); refine P.len_str (by omega) ?_) | walk1) | (dsimp only; (first | ((with_reducible show wpAny _ _ (leaving _ (Value.ref _)) _ _ _); (k_here; (refine' leave_onSN ?k1 ?k2 ?k3 ?k4 ?_; (case k3 => assumption); (case k1 => assumption); (case k4 => assumption); (case k2 => assumption); k_whole; intro h' R' _ U'; (try dsimp only at R' U' ⊢)))) | ((with_reducible show wpAny _ _ (leaving _ (Value.ref _)) _ _ _); (k_here; (refine' leave_newE ?k1 ?k0 ?k2 ?k3 ?kf ?kk ?_; (case kf => exact rfl); (case kk => exact rfl); (case k0 => assumption); (case k1 => assumption); (case k2 => assumption); (case k3 => k_asm); k_whole; intro h' R' U'; (try dsimp only at R' U' ⊢)))) | (k_here; (with_reducible show wpAny _ _ (call (Value.ref 44) [Value.str _ _]) _ _ _); (refine' sheet_call ?kB ?kF ?kX ?kT ?kc ?kk ?kr ?_; (case kc => exact rfl); (case kk => exact rfl); (case kF => k_asm); (case kB => k_asm); (case kX => k_asm); (case kT => k_asm); (case kr => (try dsimp only); omega)); (intro h' e' tk' x'); (refine' raisable_of ?kF ?kX x' ?_; (case kF => k_asm); (case kX => k_asm))) | (k_here; (with_reducible show wpAny _ _ (exec (Stmt.Raise (some (Expr.Call (Expr.Name (PySem.Str.ofString "SheetFault") _) _ _ _)) none _) _) _ _ _); refine Raise_sheetW rfl ?_) | ((with_reducible show wpAny _ _ (subscriptTail _ _ (Value.str _ _) (Value.int _ _)) _ _ _); (refine item_str (fitsSsize_of (N := 9223372036854775808) (by omega) (by omega) (Int.le_refl _)) (by omega) (by omega) ?_; intro _)) | (k_here; (with_reducible show wpAny _ _ (call (Value.builtin "len") [Value.str _ _]) _ _ _); refine P.len_str (by omega) ?_) | walk1)) | fail "no step"))
  (refine' one_callU ?kF ?kB ?kX ?kN ?kT rfl rfl ?kd ?ku ?kU ?km ?kne ?kp ?kq ?kq2 ?k1 ?k2 ?_; (case kF => k_asm); (case kB => k_asm); (case kX => k_asm); (case kN => k_asm); (case kT => k_asm); (case kd => omega); (case ku => omega); (case kU => k_updF); (case km => k_mem); (case kne => k_ne); (case kp => assumption); (case kq => assumption); (case kq2 => assumption); (case k1 => exact Nat.le_of_ble_eq_true rfl); (case k2 => exact Nat.le_of_ble_eq_true rfl))
  intro va pa qa tpa tqa ha tka hva bpa bqa bqqa Fa Na
  (try dsimp only at Na)
  obtain ⟨xa, ta, hxa, rfl⟩ := str_pick (xs := menuA) hva (by repeat' constructor)
  have hla : xa.length ≤ 10 := menuA_len xa hxa
  clear hva
  replace Na := news_keep Na (by k_mem)
  iterate 120 try ((fail_if_success (with_reducible show wpAny _ _ (call (Value.ref 142) _ _) _ _ _)); (first | (k_unfold; (try dsimp only)) | (k_end; wrow_close) | (first | ((with_reducible show wpAny _ _ (leaving _ (Value.ref _)) _ _ _); (k_here; (refine' leave_onSN ?k1 ?k2 ?k3 ?k4 ?_; (case k3 => assumption); (case k1 => assumption); (case k4 => assumption); (case k2 => assumption); k_whole; intro h' R' _ U'; (try dsimp only at R' U' ⊢)))) | ((with_reducible show wpAny _ _ (leaving _ (Value.ref _)) _ _ _); (k_here; (refine' leave_newE ?k1 ?k0 ?k2 ?k3 ?kf ?kk ?_; (case kf => exact rfl); (case kk => exact rfl); (case k0 => assumption); (case k1 => assumption); (case k2 => assumption); (case k3 => k_asm); k_whole; intro h' R' U'; (try dsimp only at R' U' ⊢)))) | (k_here; (with_reducible show wpAny _ _ (call (Value.ref 44) [Value.str _ _]) _ _ _); (refine' sheet_call ?kB ?kF ?kX ?kT ?kc ?kk ?kr ?_; (case kc => exact rfl); (case kk => exact rfl); (case kF => k_asm); (case kB => k_asm); (case kX => k_asm); (case kT => k_asm); (case kr => (try dsimp only); omega)); (intro h' e' tk' x'); (refine' raisable_of ?kF ?kX x' ?_; (case kF => k_asm); (case kX => k_asm))) | (k_here; (with_reducible show wpAny _ _ (exec (Stmt.Raise (some (Expr.Call (Expr.Name (PySem.Str.ofString "SheetFault") _) _ _ _)) none _) _) _ _ _); refine Raise_sheetW rfl ?_) | ((with_reducible show wpAny _ _ (subscriptTail _ _ (Value.str _ _) (Value.int _ _)) _ _ _); (refine item_str (fitsSsize_of (N := 9223372036854775808) (by omega) (by omega) (Int.le_refl _)) (by omega) (by omega) ?_; intro _)) | (k_here; (with_reducible show wpAny _ _ (call (Value.builtin "len") [Value.str _ _]) _ _ _); refine P.len_str (by omega) ?_) | walk1) | (dsimp only; (first | ((with_reducible show wpAny _ _ (leaving _ (Value.ref _)) _ _ _); (k_here; (refine' leave_onSN ?k1 ?k2 ?k3 ?k4 ?_; (case k3 => assumption); (case k1 => assumption); (case k4 => assumption); (case k2 => assumption); k_whole; intro h' R' _ U'; (try dsimp only at R' U' ⊢)))) | ((with_reducible show wpAny _ _ (leaving _ (Value.ref _)) _ _ _); (k_here; (refine' leave_newE ?k1 ?k0 ?k2 ?k3 ?kf ?kk ?_; (case kf => exact rfl); (case kk => exact rfl); (case k0 => assumption); (case k1 => assumption); (case k2 => assumption); (case k3 => k_asm); k_whole; intro h' R' U'; (try dsimp only at R' U' ⊢)))) | (k_here; (with_reducible show wpAny _ _ (call (Value.ref 44) [Value.str _ _]) _ _ _); (refine' sheet_call ?kB ?kF ?kX ?kT ?kc ?kk ?kr ?_; (case kc => exact rfl); (case kk => exact rfl); (case kF => k_asm); (case kB => k_asm); (case kX => k_asm); (case kT => k_asm); (case kr => (try dsimp only); omega)); (intro h' e' tk' x'); (refine' raisable_of ?kF ?kX x' ?_; (case kF => k_asm); (case kX => k_asm))) | (k_here; (with_reducible show wpAny _ _ (exec (Stmt.Raise (some (Expr.Call (Expr.Name (PySem.Str.ofString "SheetFault") _) _ _ _)) none _) _) _ _ _); refine Raise_sheetW rfl ?_) | ((with_reducible show wpAny _ _ (subscriptTail _ _ (Value.str _ _) (Value.int _ _)) _ _ _); (refine item_str (fitsSsize_of (N := 9223372036854775808) (by omega) (by omega) (Int.le_refl _)) (by omega) (by omega) ?_; intro _)) | (k_here; (with_reducible show wpAny _ _ (call (Value.builtin "len") [Value.str _ _]) _ _ _); refine P.len_str (by omega) ?_) | walk1)) | fail "no step"))
  (refine' one_callU ?kF ?kB ?kX ?kN ?kT rfl rfl ?kd ?ku ?kU ?km ?kne ?kp ?kq ?kq2 ?k1 ?k2 ?_; (case kF => k_asm); (case kB => k_asm); (case kX => k_asm); (case kN => k_asm); (case kT => k_asm); (case kd => omega); (case ku => omega); (case kU => k_updF); (case km => k_mem); (case kne => k_ne); (case kp => assumption); (case kq => assumption); (case kq2 => assumption); (case k1 => exact Nat.le_of_ble_eq_true rfl); (case k2 => exact Nat.le_of_ble_eq_true rfl))
  intro vb pb qb tpb tqb hb tkb hvb bpb bqb bqqb Fb Nb
  (try dsimp only at Nb)
  obtain ⟨xb, tb, hxb, rfl⟩ := str_pick (xs := menuB sg (qu ++ raw ++ qu)) hvb (by repeat' constructor)
  have hlb : xb.length ≤ 140 := menuB_len hn hs (whole_len hu hr) xb hxb
  clear hvb
  replace Nb := news_keep Nb (by k_mem)
  iterate 120 try ((fail_if_success (with_reducible show wpAny _ _ (call (Value.ref 142) _ _) _ _ _)); (first | (k_unfold; (try dsimp only)) | (k_end; wrow_close) | (first | ((with_reducible show wpAny _ _ (leaving _ (Value.ref _)) _ _ _); (k_here; (refine' leave_onSN ?k1 ?k2 ?k3 ?k4 ?_; (case k3 => assumption); (case k1 => assumption); (case k4 => assumption); (case k2 => assumption); k_whole; intro h' R' _ U'; (try dsimp only at R' U' ⊢)))) | ((with_reducible show wpAny _ _ (leaving _ (Value.ref _)) _ _ _); (k_here; (refine' leave_newE ?k1 ?k0 ?k2 ?k3 ?kf ?kk ?_; (case kf => exact rfl); (case kk => exact rfl); (case k0 => assumption); (case k1 => assumption); (case k2 => assumption); (case k3 => k_asm); k_whole; intro h' R' U'; (try dsimp only at R' U' ⊢)))) | (k_here; (with_reducible show wpAny _ _ (call (Value.ref 44) [Value.str _ _]) _ _ _); (refine' sheet_call ?kB ?kF ?kX ?kT ?kc ?kk ?kr ?_; (case kc => exact rfl); (case kk => exact rfl); (case kF => k_asm); (case kB => k_asm); (case kX => k_asm); (case kT => k_asm); (case kr => (try dsimp only); omega)); (intro h' e' tk' x'); (refine' raisable_of ?kF ?kX x' ?_; (case kF => k_asm); (case kX => k_asm))) | (k_here; (with_reducible show wpAny _ _ (exec (Stmt.Raise (some (Expr.Call (Expr.Name (PySem.Str.ofString "SheetFault") _) _ _ _)) none _) _) _ _ _); refine Raise_sheetW rfl ?_) | ((with_reducible show wpAny _ _ (subscriptTail _ _ (Value.str _ _) (Value.int _ _)) _ _ _); (refine item_str (fitsSsize_of (N := 9223372036854775808) (by omega) (by omega) (Int.le_refl _)) (by omega) (by omega) ?_; intro _)) | (k_here; (with_reducible show wpAny _ _ (call (Value.builtin "len") [Value.str _ _]) _ _ _); refine P.len_str (by omega) ?_) | walk1) | (dsimp only; (first | ((with_reducible show wpAny _ _ (leaving _ (Value.ref _)) _ _ _); (k_here; (refine' leave_onSN ?k1 ?k2 ?k3 ?k4 ?_; (case k3 => assumption); (case k1 => assumption); (case k4 => assumption); (case k2 => assumption); k_whole; intro h' R' _ U'; (try dsimp only at R' U' ⊢)))) | ((with_reducible show wpAny _ _ (leaving _ (Value.ref _)) _ _ _); (k_here; (refine' leave_newE ?k1 ?k0 ?k2 ?k3 ?kf ?kk ?_; (case kf => exact rfl); (case kk => exact rfl); (case k0 => assumption); (case k1 => assumption); (case k2 => assumption); (case k3 => k_asm); k_whole; intro h' R' U'; (try dsimp only at R' U' ⊢)))) | (k_here; (with_reducible show wpAny _ _ (call (Value.ref 44) [Value.str _ _]) _ _ _); (refine' sheet_call ?kB ?kF ?kX ?kT ?kc ?kk ?kr ?_; (case kc => exact rfl); (case kk => exact rfl); (case kF => k_asm); (case kB => k_asm); (case kX => k_asm); (case kT => k_asm); (case kr => (try dsimp only); omega)); (intro h' e' tk' x'); (refine' raisable_of ?kF ?kX x' ?_; (case kF => k_asm); (case kX => k_asm))) | (k_here; (with_reducible show wpAny _ _ (exec (Stmt.Raise (some (Expr.Call (Expr.Name (PySem.Str.ofString "SheetFault") _) _ _ _)) none _) _) _ _ _); refine Raise_sheetW rfl ?_) | ((with_reducible show wpAny _ _ (subscriptTail _ _ (Value.str _ _) (Value.int _ _)) _ _ _); (refine item_str (fitsSsize_of (N := 9223372036854775808) (by omega) (by omega) (Int.le_refl _)) (by omega) (by omega) ?_; intro _)) | (k_here; (with_reducible show wpAny _ _ (call (Value.builtin "len") [Value.str _ _]) _ _ _); refine P.len_str (by omega) ?_) | walk1)) | fail "no step"))
  (refine' one_callU ?kF ?kB ?kX ?kN ?kT rfl rfl ?kd ?ku ?kU ?km ?kne ?kp ?kq ?kq2 ?k1 ?k2 ?_; (case kF => k_asm); (case kB => k_asm); (case kX => k_asm); (case kN => k_asm); (case kT => k_asm); (case kd => omega); (case ku => omega); (case kU => k_updF); (case km => k_mem); (case kne => k_ne); (case kp => assumption); (case kq => assumption); (case kq2 => assumption); (case k1 => exact Nat.le_of_ble_eq_true rfl); (case k2 => exact Nat.le_of_ble_eq_true rfl))
  intro vc pc qc tpc tqc hc tkc hvc bpc bqc bqqc Fc Nc
  (try dsimp only at Nc)
  obtain ⟨xc, tc, hxc, rfl⟩ := str_pick (xs := menuC (qu ++ raw ++ qu)) hvc (by repeat' constructor)
  have hlc : xc.length ≤ 140 := menuC_len (whole_len hu hr) xc hxc
  clear hvc
  replace Nc := news_keep Nc (by k_mem)
  iterate 120 try ((fail_if_success (with_reducible show wpAny _ _ (call (Value.ref 142) _ _) _ _ _)); (first | (k_unfold; (try dsimp only)) | (k_end; wrow_close) | (first | ((with_reducible show wpAny _ _ (leaving _ (Value.ref _)) _ _ _); (k_here; (refine' leave_onSN ?k1 ?k2 ?k3 ?k4 ?_; (case k3 => assumption); (case k1 => assumption); (case k4 => assumption); (case k2 => assumption); k_whole; intro h' R' _ U'; (try dsimp only at R' U' ⊢)))) | ((with_reducible show wpAny _ _ (leaving _ (Value.ref _)) _ _ _); (k_here; (refine' leave_newE ?k1 ?k0 ?k2 ?k3 ?kf ?kk ?_; (case kf => exact rfl); (case kk => exact rfl); (case k0 => assumption); (case k1 => assumption); (case k2 => assumption); (case k3 => k_asm); k_whole; intro h' R' U'; (try dsimp only at R' U' ⊢)))) | (k_here; (with_reducible show wpAny _ _ (call (Value.ref 44) [Value.str _ _]) _ _ _); (refine' sheet_call ?kB ?kF ?kX ?kT ?kc ?kk ?kr ?_; (case kc => exact rfl); (case kk => exact rfl); (case kF => k_asm); (case kB => k_asm); (case kX => k_asm); (case kT => k_asm); (case kr => (try dsimp only); omega)); (intro h' e' tk' x'); (refine' raisable_of ?kF ?kX x' ?_; (case kF => k_asm); (case kX => k_asm))) | (k_here; (with_reducible show wpAny _ _ (exec (Stmt.Raise (some (Expr.Call (Expr.Name (PySem.Str.ofString "SheetFault") _) _ _ _)) none _) _) _ _ _); refine Raise_sheetW rfl ?_) | ((with_reducible show wpAny _ _ (subscriptTail _ _ (Value.str _ _) (Value.int _ _)) _ _ _); (refine item_str (fitsSsize_of (N := 9223372036854775808) (by omega) (by omega) (Int.le_refl _)) (by omega) (by omega) ?_; intro _)) | (k_here; (with_reducible show wpAny _ _ (call (Value.builtin "len") [Value.str _ _]) _ _ _); refine P.len_str (by omega) ?_) | walk1) | (dsimp only; (first | ((with_reducible show wpAny _ _ (leaving _ (Value.ref _)) _ _ _); (k_here; (refine' leave_onSN ?k1 ?k2 ?k3 ?k4 ?_; (case k3 => assumption); (case k1 => assumption); (case k4 => assumption); (case k2 => assumption); k_whole; intro h' R' _ U'; (try dsimp only at R' U' ⊢)))) | ((with_reducible show wpAny _ _ (leaving _ (Value.ref _)) _ _ _); (k_here; (refine' leave_newE ?k1 ?k0 ?k2 ?k3 ?kf ?kk ?_; (case kf => exact rfl); (case kk => exact rfl); (case k0 => assumption); (case k1 => assumption); (case k2 => assumption); (case k3 => k_asm); k_whole; intro h' R' U'; (try dsimp only at R' U' ⊢)))) | (k_here; (with_reducible show wpAny _ _ (call (Value.ref 44) [Value.str _ _]) _ _ _); (refine' sheet_call ?kB ?kF ?kX ?kT ?kc ?kk ?kr ?_; (case kc => exact rfl); (case kk => exact rfl); (case kF => k_asm); (case kB => k_asm); (case kX => k_asm); (case kT => k_asm); (case kr => (try dsimp only); omega)); (intro h' e' tk' x'); (refine' raisable_of ?kF ?kX x' ?_; (case kF => k_asm); (case kX => k_asm))) | (k_here; (with_reducible show wpAny _ _ (exec (Stmt.Raise (some (Expr.Call (Expr.Name (PySem.Str.ofString "SheetFault") _) _ _ _)) none _) _) _ _ _); refine Raise_sheetW rfl ?_) | ((with_reducible show wpAny _ _ (subscriptTail _ _ (Value.str _ _) (Value.int _ _)) _ _ _); (refine item_str (fitsSsize_of (N := 9223372036854775808) (by omega) (by omega) (Int.le_refl _)) (by omega) (by omega) ?_; intro _)) | (k_here; (with_reducible show wpAny _ _ (call (Value.builtin "len") [Value.str _ _]) _ _ _); refine P.len_str (by omega) ?_) | walk1)) | fail "no step"))
  (refine' one_callU ?kF ?kB ?kX ?kN ?kT rfl rfl ?kd ?ku ?kU ?km ?kne ?kp ?kq ?kq2 ?k1 ?k2 ?_; (case kF => k_asm); (case kB => k_asm); (case kX => k_asm); (case kN => k_asm); (case kT => k_asm); (case kd => omega); (case ku => omega); (case kU => k_updF); (case km => k_mem); (case kne => k_ne); (case kp => assumption); (case kq => assumption); (case kq2 => assumption); (case k1 => exact Nat.le_of_ble_eq_true rfl); (case k2 => exact Nat.le_of_ble_eq_true rfl))
  intro vd pd qd tpd tqd hd tkd hvd bpd bqd bqqd Fd Nd
  (try dsimp only at Nd)
  obtain ⟨xd, td, hxd, rfl⟩ := str_pick (xs := menuD) hvd (by repeat' constructor)
  have hld : xd.length ≤ 10 := menuD_len xd hxd
  clear hvd
  replace Nd := news_keep Nd (by k_mem)
  iterate 40 try (first | (k_unfold; (try dsimp only)) | (k_end; wrow_close) | (first | ((with_reducible show wpAny _ _ (leaving _ (Value.ref _)) _ _ _); (k_here; (refine' leave_onSN ?k1 ?k2 ?k3 ?k4 ?_; (case k3 => assumption); (case k1 => assumption); (case k4 => assumption); (case k2 => assumption); k_whole; intro h' R' _ U'; (try dsimp only at R' U' ⊢)))) | ((with_reducible show wpAny _ _ (leaving _ (Value.ref _)) _ _ _); (k_here; (refine' leave_newE ?k1 ?k0 ?k2 ?k3 ?kf ?kk ?_; (case kf => exact rfl); (case kk => exact rfl); (case k0 => assumption); (case k1 => assumption); (case k2 => assumption); (case k3 => k_asm); k_whole; intro h' R' U'; (try dsimp only at R' U' ⊢)))) | (k_here; (with_reducible show wpAny _ _ (call (Value.ref 44) [Value.str _ _]) _ _ _); (refine' sheet_call ?kB ?kF ?kX ?kT ?kc ?kk ?kr ?_; (case kc => exact rfl); (case kk => exact rfl); (case kF => k_asm); (case kB => k_asm); (case kX => k_asm); (case kT => k_asm); (case kr => (try dsimp only); omega)); (intro h' e' tk' x'); (refine' raisable_of ?kF ?kX x' ?_; (case kF => k_asm); (case kX => k_asm))) | (k_here; (with_reducible show wpAny _ _ (exec (Stmt.Raise (some (Expr.Call (Expr.Name (PySem.Str.ofString "SheetFault") _) _ _ _)) none _) _) _ _ _); refine Raise_sheetW rfl ?_) | ((with_reducible show wpAny _ _ (subscriptTail _ _ (Value.str _ _) (Value.int _ _)) _ _ _); (refine item_str (fitsSsize_of (N := 9223372036854775808) (by omega) (by omega) (Int.le_refl _)) (by omega) (by omega) ?_; intro _)) | (k_here; (with_reducible show wpAny _ _ (call (Value.builtin "len") [Value.str _ _]) _ _ _); refine P.len_str (by omega) ?_) | walk1) | (dsimp only; (first | ((with_reducible show wpAny _ _ (leaving _ (Value.ref _)) _ _ _); (k_here; (refine' leave_onSN ?k1 ?k2 ?k3 ?k4 ?_; (case k3 => assumption); (case k1 => assumption); (case k4 => assumption); (case k2 => assumption); k_whole; intro h' R' _ U'; (try dsimp only at R' U' ⊢)))) | ((with_reducible show wpAny _ _ (leaving _ (Value.ref _)) _ _ _); (k_here; (refine' leave_newE ?k1 ?k0 ?k2 ?k3 ?kf ?kk ?_; (case kf => exact rfl); (case kk => exact rfl); (case k0 => assumption); (case k1 => assumption); (case k2 => assumption); (case k3 => k_asm); k_whole; intro h' R' U'; (try dsimp only at R' U' ⊢)))) | (k_here; (with_reducible show wpAny _ _ (call (Value.ref 44) [Value.str _ _]) _ _ _); (refine' sheet_call ?kB ?kF ?kX ?kT ?kc ?kk ?kr ?_; (case kc => exact rfl); (case kk => exact rfl); (case kF => k_asm); (case kB => k_asm); (case kX => k_asm); (case kT => k_asm); (case kr => (try dsimp only); omega)); (intro h' e' tk' x'); (refine' raisable_of ?kF ?kX x' ?_; (case kF => k_asm); (case kX => k_asm))) | (k_here; (with_reducible show wpAny _ _ (exec (Stmt.Raise (some (Expr.Call (Expr.Name (PySem.Str.ofString "SheetFault") _) _ _ _)) none _) _) _ _ _); refine Raise_sheetW rfl ?_) | ((with_reducible show wpAny _ _ (subscriptTail _ _ (Value.str _ _) (Value.int _ _)) _ _ _); (refine item_str (fitsSsize_of (N := 9223372036854775808) (by omega) (by omega) (Int.le_refl _)) (by omega) (by omega) ?_; intro _)) | (k_here; (with_reducible show wpAny _ _ (call (Value.builtin "len") [Value.str _ _]) _ _ _); refine P.len_str (by omega) ?_) | walk1)) | fail "no step")
  show R (.ok (.ret _)) _
  (with_reducible rename News _ _ _ _ => N20)
  refine hok _ _ _ _ ⟨_, _, _, _, _, _, _, _, _, _, _, _, _, pd, qd, tpd, tqd, rfl, by k_ne, ?_, bpd, bqd, bqqd, rfl⟩ (Fr.keep (by assumption)) (fun r hr => new_of N20 r ((List.mem_cons.mp hr).elim (fun e => by rw [e]; exact .head _) fun e => by rw [List.mem_singleton.mp e]; k_mem))
  simp only [List.forall_mem_cons]
  exact ⟨.a hxa, .b hxb, .c hxc, .noend, .tag, .d hxd, List.forall_mem_nil _⟩
end
end Xm
end

section
open PySem PySem.W PySem.Calls PyProof.Rows PySem.Spec
set_option maxRecDepth 100000
namespace Xm
open Builtin.Str (occurrences subAt strSub)
theorem cs_eqs : cs (PySem.Str.ofString "=") = [61] := by decide +kernel
theorem cs_lt : cs (PySem.Str.ofString "<") = [60] := by decide +kernel
section
variable {nm b1 b2 sg qu raw meant T x : PySem.Str} {q : Nat} {keys : List PySem.Str}
theorem menuA_head : (menuA.all fun x => match cs x with | [] => true | c :: _ => !notEnd c || noBegin c) = true := by decide +kernel
theorem menuD_bad : ∀ x ∈ menuD, (∀ n, unescF (n + 1) (cs x) = some none) ∧ 34 ∉ cs x ∧ 39 ∉ cs x ∧ 60 ∉ cs x := by
  intro x hx
  unfold menuD at hx
  simp only [List.mem_cons, List.not_mem_nil, or_false] at hx
  have e0 : cs (PySem.Str.ofString "&x;") = [38, 120, 59] := by decide +kernel
  have e1 : cs (PySem.Str.ofString "&#0;") = [38, 35, 48, 59] := by decide +kernel
  have e2 : cs (PySem.Str.ofString "&;") = [38, 59] := by decide +kernel
  have e3 : cs (PySem.Str.ofString "&lt") = [38, 108, 116] := by decide +kernel
  have e4 : cs (PySem.Str.ofString "& ;") = [38, 32, 59] := by decide +kernel
  rcases hx with rfl | rfl | rfl | rfl | rfl
  · rw [e0]; exact ⟨fun _ => rfl, by decide, by decide, by decide⟩
  · rw [e1]; exact ⟨fun _ => rfl, by decide, by decide, by decide⟩
  · rw [e2]; exact ⟨fun _ => rfl, by decide, by decide, by decide⟩
  · rw [e3]; exact ⟨fun _ => rfl, by decide, by decide, by decide⟩
  · rw [e4]; exact ⟨fun _ => rfl, by decide, by decide, by decide⟩
theorem sg_cs (hsg : sg = b1 ++ PySem.Str.ofString "=" ++ b2) : cs sg = cs b1 ++ 61 :: cs b2 := by
  rw [hsg, cs_app, cs_app, cs_eqs]
  simp
theorem WrongT.none (P : Picks nm b1 b2 q raw meant) (hsg : sg = b1 ++ PySem.Str.ofString "=" ++ b2) (hqu : cs qu = [q]) (hk : nm ∉ keys) (h : WrongT nm sg qu raw x) : readF 8 x keys = some none := by
  have es := sg_cs hsg
  cases h with
  | a hx =>
    rename_i y
    have hy := List.all_eq_true.mp menuA_head y hx
    cases ey : cs y with
    | nil =>
      cases eb : cs b1 with
      | nil => exact noname (c := 61) (r := cs b2 ++ cs (qu ++ raw ++ qu)) (by rw [cs_app, cs_app, ey, es, eb]; simp) (.inl (by decide))
      | cons c b => exact noname (c := c) (r := b ++ 61 :: cs b2 ++ cs (qu ++ raw ++ qu)) (by rw [cs_app, cs_app, ey, es, eb]; simp) (.inl (blank_end (P.b1 c (by rw [eb]; exact .head _))))
    | cons c r =>
      rw [ey] at hy
      exact noname (c := c) (r := r ++ cs sg ++ cs (qu ++ raw ++ qu)) (by rw [cs_app, cs_app, ey]; simp) (by
        rcases Bool.or_eq_true _ _ ▸ hy with z | z
        · exact .inl (by simpa using z)
        · exact .inr z)
  | b hx =>
    rename_i y
    have ew : cs (qu ++ raw ++ qu) = q :: (cs raw ++ [q]) := by rw [cs_app, cs_app, hqu]; simp
    have hq := not_blank_q P.hq
    unfold menuB at hx
    simp only [List.mem_cons, List.not_mem_nil, or_false] at hx
    have k0 : ∀ y, (∀ c ∈ (cs y).head?, isBlank c = false ∧ c ≠ 61 ∧ notEnd c = false) → readF 8 (nm ++ y) keys = some Option.none := fun y hy =>
      readF_nosign (b := []) (tl := cs y) (by show cs (nm ++ y) = _; rw [cs_app]; simp) P.name (List.forall_mem_nil _) (fun c hc => ⟨(hy c hc).1, (hy c hc).2.1⟩) (fun _ c hc => (hy c hc).2.2)
    have k1 : ∀ c r, cs y = c :: r → (isBlank c = false ∧ c ≠ 61 ∧ notEnd c = false) → readF 8 (nm ++ y) keys = some Option.none := fun c r e h => k0 y fun d hd => by
      rw [e] at hd
      have : c = d := by simpa using hd
      exact this ▸ h
    rcases hx with rfl | rfl | rfl | rfl | rfl | rfl
    · exact k0 _ (by decide +kernel)
    · exact k1 q _ ew ⟨hq.1, hq.2.2, hq.2.1⟩
    · exact k1 62 [] (by decide +kernel) (by decide)
    · exact k1 47 (cs sg ++ cs (qu ++ raw ++ qu)) (by rw [cs_app, cs_app, show cs (PySem.Str.ofString "/") = [47] by decide +kernel]; simp) (by decide)
    · exact readF_nosign (b := [32]) (tl := 120 :: (cs sg ++ cs (qu ++ raw ++ qu))) (by show cs (nm ++ (PySem.Str.ofString " x" ++ sg ++ (qu ++ raw ++ qu))) = _; rw [cs_app, cs_app, cs_app, show cs (PySem.Str.ofString " x") = [32, 120] by decide +kernel]; simp) P.name (by decide) (fun c hc => by
        have : 120 = c := by simpa using hc
        subst this
        decide) (fun z => nomatch z)
    · exact k1 60 [] (by decide +kernel) (by decide)
  | c hx =>
    rename_i y
    have hT : cs (nm ++ sg ++ y) = cs nm ++ (cs b1 ++ 61 :: (cs b2 ++ cs y)) := by rw [cs_app, cs_app, es]; simp
    have k1 : ∀ c r, cs y = c :: r → (isBlank c = false ∧ c ≠ 34 ∧ c ≠ 39) → readF 8 (nm ++ sg ++ y) keys = some Option.none := fun c r e h => P.noquote hT hk fun d hd => by
      rw [e] at hd
      have : c = d := by simpa using hd
      exact this ▸ h
    unfold menuC at hx
    simp only [List.mem_cons, List.not_mem_nil, or_false] at hx
    rcases hx with rfl | rfl | rfl | rfl | rfl
    · exact P.noquote hT hk (by decide +kernel)
    · exact k1 118 [] (by decide +kernel) (by decide)
    · exact k1 62 [] (by decide +kernel) (by decide)
    · exact k1 45 (cs (qu ++ raw ++ qu)) (by rw [cs_app, show cs (PySem.Str.ofString "-") = [45] by decide +kernel]; simp) (by decide)
    · exact k1 38 [113, 117, 111, 116, 59, 118, 38, 113, 117, 111, 116, 59] (by decide +kernel) (by decide)
  | noend => exact P.noend (by rw [cs_app, cs_app, cs_app, es, hqu]; simp) hk
  | tag => exact P.tag (by rw [cs_app, cs_app, cs_app, cs_app, cs_app, cs_app, es, hqu, cs_lt]; simp) hk
  | d hx =>
    obtain ⟨h1, h2, h3, h4⟩ := menuD_bad _ hx
    exact P.badref (by rw [cs_app, cs_app, cs_app, cs_app, cs_app, es, hqu]; simp) hk h1 h2 h3 h4
/-- the built text is read, and what stands behind it is left -/
theorem Picks.read (P : Picks nm b1 b2 q raw meant) (hsg : sg = b1 ++ PySem.Str.ofString "=" ++ b2) (hqu : cs qu = [q]) (hk : nm ∉ keys) (rest : PySem.Str) :
    ∃ e, readF 8 (nm ++ sg ++ qu ++ raw ++ qu ++ rest) keys = some (some (nm, cs meant, e)) ∧ Txt.slice (nm ++ sg ++ qu ++ raw ++ qu ++ rest) (some e) none = rest := by
  have es := sg_cs hsg
  refine ⟨_, P.good (tl := cs rest) (by simp only [cs_app, es, hqu]; simp) hk, slice_rest ?_⟩
  have : (nm ++ sg ++ qu ++ raw ++ qu).length = (cs nm ++ (cs b1 ++ 61 :: (cs b2 ++ q :: (cs raw ++ [q])))).length := by
    rw [← cs_len]
    simp only [cs_app, es, hqu]
    simp
  rw [this]
theorem Picks.again (P : Picks nm b1 b2 q raw meant) (hsg : sg = b1 ++ PySem.Str.ofString "=" ++ b2) (hqu : cs qu = [q]) (hk : nm ∈ keys) (rest : PySem.Str) : readF 8 (nm ++ sg ++ qu ++ raw ++ qu ++ rest) keys = some none := by
  have es := sg_cs hsg
  exact P.known (tl := cs raw ++ q :: cs rest) (by simp only [cs_app, es, hqu]; simp) hk
end
/-- the names -/
def nameL : List PySem.Str := [PySem.Str.ofString "k", PySem.Str.ofString "n:m", PySem.Str.ofString "a-1.b", ⟨#[233]⟩]
theorem nameL_ok : ∀ x ∈ nameL, isName (cs x) = true ∧ x.length ≤ 10 ∧ x ≠ PySem.Str.ofString "x" ∧ x ≠ PySem.Str.ofString "K" := by decide +kernel
theorem blankL_ok : ∀ x ∈ blankL, (∀ c ∈ cs x, isBlank c = true) ∧ x.length ≤ 4 := by decide +kernel
theorem flat_map {ps : List (PySem.Str × PySem.Str)} (f : PySem.Str × PySem.Str → PySem.Str) : catS (ps.map f) = (ps.map fun p => cs (f p)).flatten := by
  unfold catS
  rw [List.map_map]
  rfl
theorem picks_of {nm b1 b2 o raw meant : PySem.Str} {q : Nat} {ps : List (PySem.Str × PySem.Str)} (hn : nm ∈ nameL) (h1 : b1 ∈ blankL) (h2 : b2 ∈ blankL) (hq : (q = 34 ∧ o = PySem.Str.ofString "'") ∨ (q = 39 ∧ o = PySem.Str.ofString "\""))
    (hl : ps.length ≤ 3) (hp : ∀ x ∈ ps, x ∈ tblV o) (hr : cs raw = catS (ps.map (·.1))) (hm : cs meant = catS (ps.map (·.2))) : Picks nm b1 b2 q raw meant ∧ raw.length ≤ 100 := by
  have eo : o.length ≤ 10 ∧ q ∉ cs o ∧ 60 ∉ cs o ∧ 38 ∉ cs o ∧ (q = 34 ∨ q = 39) := by
    rcases hq with ⟨rfl, rfl⟩ | ⟨rfl, rfl⟩ <;> decide +kernel
  have e0 : cs (PySem.Str.ofString "v") = [118] := by decide +kernel
  have e1 : cs (PySem.Str.ofString " > b") = [32, 62, 32, 98] := by decide +kernel
  have e2 : cs (PySem.Str.ofString "&lt;") = [38, 108, 116, 59] := by decide +kernel
  have e3 : cs (PySem.Str.ofString "&#65;") = [38, 35, 54, 53, 59] := by decide +kernel
  have e4 : cs (PySem.Str.ofString "&#x3E;") = [38, 35, 120, 51, 69, 59] := by decide +kernel
  have f2 : cs (PySem.Str.ofString "<") = [60] := by decide +kernel
  have f3 : cs (PySem.Str.ofString "A") = [65] := by decide +kernel
  have f4 : cs (PySem.Str.ofString ">") = [62] := by decide +kernel
  have key : ∀ x ∈ ps, Piece (cs x.1) (cs x.2) ∧ q ∉ cs x.1 ∧ 60 ∉ cs x.1 := by
    intro x hx
    have := hp x hx
    unfold tblV at this
    simp only [List.mem_cons, List.not_mem_nil, or_false] at this
    have hq' := eo.2.2.2.2
    rcases this with rfl | rfl | rfl | rfl | rfl | rfl
    · rw [e0]; exact ⟨.inl ⟨rfl, by decide⟩, by rcases hq' with rfl | rfl <;> decide, by decide⟩
    · rw [e1]; exact ⟨.inl ⟨rfl, by decide⟩, by rcases hq' with rfl | rfl <;> decide, by decide⟩
    · exact ⟨.inl ⟨rfl, eo.2.2.2.1⟩, eo.2.1, eo.2.2.1⟩
    · rw [e2, f2]; exact ⟨.inr ⟨[108, 116], 60, rfl, rfl, by decide, rfl⟩, by rcases hq' with rfl | rfl <;> decide, by decide⟩
    · rw [e3, f3]; exact ⟨.inr ⟨[35, 54, 53], 65, rfl, rfl, by decide, rfl⟩, by rcases hq' with rfl | rfl <;> decide, by decide⟩
    · rw [e4, f4]; exact ⟨.inr ⟨[35, 120, 51, 69], 62, rfl, rfl, by decide, rfl⟩, by rcases hq' with rfl | rfl <;> decide, by decide⟩
  rw [flat_map] at hr hm
  have M := Means.of (ps := ps.map fun p => (cs p.1, cs p.2)) (by rw [List.length_map]; exact hl) (fun p hp' => by
    obtain ⟨x, hx, rfl⟩ := List.mem_map.mp hp'
    exact (key x hx).1)
  rw [List.map_map, List.map_map] at M
  have M' : Means (cs raw) (cs meant) := by rw [hr, hm]; exact M
  refine ⟨⟨(nameL_ok nm hn).1, (blankL_ok b1 h1).1, (blankL_ok b2 h2).1, eo.2.2.2.2, fun z => ?_, fun z => ?_, M'⟩, ?_⟩
  · rw [hr] at z
    obtain ⟨l, hl', hz⟩ := List.mem_flatten.mp z
    obtain ⟨x, hx, rfl⟩ := List.mem_map.mp hl'
    exact (key x hx).2.1 hz
  · rw [hr] at z
    obtain ⟨l, hl', hz⟩ := List.mem_flatten.mp z
    obtain ⟨x, hx, rfl⟩ := List.mem_map.mp hl'
    exact (key x hx).2.2 hz
  · have : (cs raw).length = ((ps.map (·.1)).map (·.length)).sum := by
      rw [hr, List.length_flatten, List.map_map, List.map_map]
      congr 1
    have s := sum_le (·.1) fun p hp' => (tblV_len eo.1 p (hp p hp')).1
    rw [cs_len] at this
    omega
end Xm
end

section
open PySem PySem.W PySem.Calls PyProof.Rows PySem.Spec
set_option maxRecDepth 100000
set_option maxHeartbeats 4000000
namespace Xm
theorem fill_pool (w : World) : PySem.Challenge.rw_xm0717_01.prog = PySem.Challenge.rw_xm0717_01.prog ∧ hd.heap_39 w.params = hd.heap_39 w.params := by k_fill; exact ⟨rfl, rfl⟩
local macro_rules | `(tactic| k_room) => `(tactic| ((try simp only [depth_mark, depth_under_make, depth_under_kw, depth_in1, depth_deeper, depth_caller]); (show (_ : Nat) < 1000); omega))
theorem great_nn (c : Int) : 0 ≤ (if -1 - c > c then -1 - c else c) := by
  split <;> omega
theorem one_nn {p : Prop} [Decidable p] : (0 : Int) ≤ (if p then 1 else 0) := by
  split <;> decide
theorem pool_site {w : World} {mean : ExcName → Option Value} {mg mb : PySem.Str → Option Value} {d u : Nat} {gs : Option (List Code)} {base g : Heap} {outer : List Env} {s : Shared} {sc : Addr} {vs : List Value} {ns : List Int}
    (S : Site w mean mg mb ⟨none, d, some outer, gs, u⟩ base outer g s []) (hL : g.IsList sc vs.toArray) (hI : IntsAre vs ns) (hlen : ns.length ≤ 63) (hdp : d + 20 ≤ 400) (hup : u + 80 ≤ 4000) {R : Result → Shared → Prop}
    (hok : ∀ (P : Addr) (p q : Int) (tp tq : Tok) h' tk, 0 ≤ p → 0 ≤ q → q < 2147483647 → g.StaysIn h' → h'.get? P = some (W.listOf #[.int p tp, .int q tq] 0) → g.get? P = none → R (.ok (.ret (.ref P))) { s with heap := h', toks := tk }) :
    codeAny (model PySem.Challenge.rw_xm0717_01.row.prog w) ⟨none, d, some outer, gs, u⟩ (.call (.ref 128) ⟨[.ref sc], []⟩) R s := by
  have hfill : PySem.Challenge.rw_xm0717_01.prog = PySem.Challenge.rw_xm0717_01.prog ∧ hd.heap_39 w.params = hd.heap_39 w.params := by k_fill; exact ⟨rfl, rfl⟩
  clear hfill
  have B := S.below
  have X := S.kin
  have T0 := S.top
  refine' enter (binds := [(PySem.Str.ofString "script", .ref sc)]) S ?k6 ?k7 ?k8 ?k9 ?kB ?_ ?c2 ?c3 ?c4 ?c5; (case k6 => k_is); (case k7 => k_is); (case k8 => k_room); (case k9 => exact BindsTo.of_eq rfl); (case c5 => decide); (case kB => exact locs rfl); (case c2 => exact rfl); (case c3 => exact rfl); (case c4 => exact rfl)
  intro L' h₁ F N
  clear S
  show wpAny _ _ _ _ _ _
  k_fold
  k_steps
  all_goals (show R (.ok (.ret _)) _)
  all_goals ((with_reducible rename News _ _ _ _ => N20); exact hok _ _ _ _ _ _ _ (Int.mul_nonneg (great_nn _) one_nn) (fmod_lt _).1 (fmod_lt _).2 (Fr.keep (by assumption)) (N20 _ (.head _)).1 (N20 _ (.head _)).2.2)

section
variable {w : World} {mean : ExcName → Option Value} {mg mb : PySem.Str → Option Value} {E : Value → Shared → Prop} {s : Shared} {base h₀ : Heap} {outer : List Env} {d u : Nat} {gs : Option (List Code)} {L : Addr} {m : PySem.Str → Option Value} {env : Env} {news : List (Addr × Obj)} {Q : Value → Shared → Prop}
  {src : Addr} {p q : Int} {tp tq : Tok} {k : Nat} {U : Obj → List (Addr × Obj)}
theorem pool_call {sc : Addr} {vs : List Value} {ns : List Int} (F : Fr h₀ L s.heap m) (B : Below ⟨none, d, some outer, gs, u⟩ base outer h₀) (X : (hd.heap_39 w.params).In h₀) (N : News h₀ L s.heap news) (T : Top hd.view_39 (looseW hd.view_39 [Str.ofString "ENDS"]) mean mg mb h₀)
    (hf : env.frame = some L) (hk : env.scope.kind = .function) (hL : h₀.IsList sc vs.toArray) (hI : IntsAre vs ns) (hlen : ns.length ≤ 63) (hdp : d + 21 ≤ 400) (hup : u + 83 ≤ 4000)
    (hok : ∀ (P : Addr) (p q : Int) (tp tq : Tok) h' tk, 0 ≤ p → 0 ≤ q → q < 2147483647 → Fr h₀ L h' m → News h₀ L h' ((P, W.listOf #[.int p tp, .int q tq] 0) :: news) → Q (.ref P) { s with heap := h', toks := tk }) :
    wpAny (model PySem.Challenge.rw_xm0717_01.row.prog w) ((⟨none, d, some outer, gs, u⟩ : Around).deeper env) (call (.ref 128) [.ref sc]) Q E s := by
  obtain ⟨S, Fg, hkp⟩ := site_of (small := []) B F X N T hf hk (List.forall_mem_nil _)
  have hL' : (hideAll s.heap (([] : List (Addr × Obj)).map (·.1))).IsList sc vs.toArray := by
    obtain ⟨o, e, r⟩ := hL
    exact ⟨o, Fg.keep _ _ e, r⟩
  refine wpAny_call (pool_site S hL' hI hlen (by omega) (by omega) fun P p q tp tq h' tk c1 c2 c3 st hP hg => ?_)
  obtain ⟨F', N'⟩ := back_of (small' := [(P, W.listOf #[.int p tp, .int q tq] 0)]) (rest := news) F Fg N st (fun r hr => by rw [List.mem_singleton.mp hr]; exact ⟨hP, hg⟩) (fun r hr => ⟨hr, hkp r hr (List.not_mem_nil)⟩)
  exact hok P p q tp tq h' tk c1 c2 c3 F' N'
/-- a call of _law_value, the ledger updated in place -/
theorem value_callU {o : PySem.Str} {to : Tok} (F : Fr h₀ L s.heap m) (B : Below ⟨none, d, some outer, gs, u⟩ base outer h₀) (X : (hd.heap_39 w.params).In h₀) (N : News h₀ L s.heap news) (T : Top hd.view_39 (looseW hd.view_39 [Str.ofString "ENDS"]) mean mg mb h₀)
    (hf : env.frame = some L) (hk : env.scope.kind = .function) (hdp : d + 21 ≤ 400) (hup : u + 83 ≤ 4000)
    (hU : UpdF src (W.listOf #[.int p tp, .int q tq] k) news U) (hp : 0 ≤ p) (hq : 0 ≤ q) (hq2 : q < 2147483647) (ho : o.length ≤ 10)
    (hok : ∀ (t : Addr) (raw meant : PySem.Str) (tr tm : Tok) (p' q' : Int) (tp' tq' : Tok) (ps : List (PySem.Str × PySem.Str)) h' tk, @Ne Nat t src → ps.length ≤ 3 → (∀ x ∈ ps, x ∈ tblV o) → raw.cps.toList = catS (ps.map (·.1)) → meant.cps.toList = catS (ps.map (·.2)) → 0 ≤ p' → 0 ≤ q' → q' < 2147483647 →
      Fr h₀ L h' m → News h₀ L h' ((t, tupO raw tr meant tm) :: U (W.listOf #[.int p' tp', .int q' tq'] k)) → Q (.ref t) { s with heap := h', toks := tk }) :
    wpAny (model PySem.Challenge.rw_xm0717_01.row.prog w) ((⟨none, d, some outer, gs, u⟩ : Around).deeper env) (call (.ref 161) [.ref src, .str o to]) Q E s := by
  obtain ⟨pre, post, rfl, hg, a, b⟩ := hU.split
  refine call_ctr (pre ++ post) (value_ctr (tp := tp) (tq := tq) (k := k) hp hq hq2 ho w) F B X N T hf hk (by omega) (by omega) (fun r hr' => ?_) (fun r hr' => ?_) (fun v small h' tk ok _ F' N' => ?_) (fun e small h' tk g er => er.elim)
  · rw [List.mem_singleton.mp hr']; exact List.mem_append_right _ (List.mem_cons_self ..)
  · have hn : @Ne Nat r.1 src → r.1 ∉ [(src, W.listOf #[.int p tp, .int q tq] k)].map (·.1) := fun hn z => by
      simp only [List.map_cons, List.map_nil, List.mem_cons, List.not_mem_nil, or_false] at z
      exact hn z
    rcases List.mem_append.mp hr' with z | z
    · exact ⟨List.mem_append_left _ z, hn (a r z)⟩
    · exact ⟨List.mem_append_right _ (List.mem_cons_of_mem _ z), hn (b r z)⟩
  · obtain ⟨t, raw, meant, tr, tm, p', q', tp', tq', ps, rfl, c1, c2, c3, c4, c5, c6, c7, c8, rfl⟩ := ok
    refine hok t raw meant tr tm p' q' tp' tq' ps h' tk c1 c2 c3 c4 c5 c6 c7 c8 F' fun r hr => N' r ?_
    rw [hg] at hr
    rcases List.mem_cons.mp hr with e | z
    · rw [e]; exact .head _
    · rcases List.mem_append.mp z with z | z
      · exact List.mem_append_right _ (List.mem_append_left _ z)
      · rcases List.mem_cons.mp z with e | z
        · rw [e]; exact .tail _ (.head _)
        · exact List.mem_append_right _ (List.mem_append_right _ z)
/-- a call of _law_wrong, the ledger updated in place -/
theorem wrong_callU {tn ts tu tr : Tok} {nm sg qu raw : PySem.Str} (F : Fr h₀ L s.heap m) (B : Below ⟨none, d, some outer, gs, u⟩ base outer h₀) (X : (hd.heap_39 w.params).In h₀) (N : News h₀ L s.heap news) (T : Top hd.view_39 (looseW hd.view_39 [Str.ofString "ENDS"]) mean mg mb h₀)
    (hf : env.frame = some L) (hk : env.scope.kind = .function) (hdp : d + 21 ≤ 400) (hup : u + 83 ≤ 4000)
    (hU : UpdF src (W.listOf #[.int p tp, .int q tq] k) news U) (hp : 0 ≤ p) (hq : 0 ≤ q) (hq2 : q < 2147483647) (hn : nm.length ≤ 10) (hs : sg.length ≤ 10) (hu : qu.length ≤ 10) (hr : raw.length ≤ 100)
    (hok : ∀ (wr : Addr) (x0 x1 x2 x3 x4 x5 : PySem.Str) (t0 t1 t2 t3 t4 t5 : Tok) (p' q' : Int) (tp' tq' : Tok) h' tk, @Ne Nat wr src → (∀ x ∈ [x0, x1, x2, x3, x4, x5], WrongT nm sg qu raw x) → 0 ≤ p' → 0 ≤ q' → q' < 2147483647 →
      Fr h₀ L h' m → News h₀ L h' ((wr, W.listOf #[.str x0 t0, .str x1 t1, .str x2 t2, .str x3 t3, .str x4 t4, .str x5 t5] 0) :: U (W.listOf #[.int p' tp', .int q' tq'] k)) → Q (.ref wr) { s with heap := h', toks := tk }) :
    wpAny (model PySem.Challenge.rw_xm0717_01.row.prog w) ((⟨none, d, some outer, gs, u⟩ : Around).deeper env) (call (.ref 168) [.ref src, .str nm tn, .str sg ts, .str qu tu, .str raw tr]) Q E s := by
  obtain ⟨pre, post, rfl, hg, a, b⟩ := hU.split
  refine call_ctr (pre ++ post) (wrong_ctr (tp := tp) (tq := tq) (k := k) hp hq hq2 hn hs hu hr w) F B X N T hf hk (by omega) (by omega) (fun r hr' => ?_) (fun r hr' => ?_) (fun v small h' tk ok _ F' N' => ?_) (fun e small h' tk g er => er.elim)
  · rw [List.mem_singleton.mp hr']; exact List.mem_append_right _ (List.mem_cons_self ..)
  · have hn : @Ne Nat r.1 src → r.1 ∉ [(src, W.listOf #[.int p tp, .int q tq] k)].map (·.1) := fun hn z => by
      simp only [List.map_cons, List.map_nil, List.mem_cons, List.not_mem_nil, or_false] at z
      exact hn z
    rcases List.mem_append.mp hr' with z | z
    · exact ⟨List.mem_append_left _ z, hn (a r z)⟩
    · exact ⟨List.mem_append_right _ (List.mem_cons_of_mem _ z), hn (b r z)⟩
  · obtain ⟨wr, x0, x1, x2, x3, x4, x5, t0, t1, t2, t3, t4, t5, p', q', tp', tq', rfl, c1, c2, c3, c4, c5, rfl⟩ := ok
    refine hok wr x0 x1 x2 x3 x4 x5 t0 t1 t2 t3 t4 t5 p' q' tp' tq' h' tk c1 c2 c3 c4 c5 F' fun r hr => N' r ?_
    rw [hg] at hr
    rcases List.mem_cons.mp hr with e | z
    · rw [e]; exact .head _
    · rcases List.mem_append.mp z with z | z
      · exact List.mem_append_right _ (List.mem_append_left _ z)
      · rcases List.mem_cons.mp z with e | z
        · rw [e]; exact .tail _ (.head _)
        · exact List.mem_append_right _ (List.mem_append_right _ z)
end
theorem news_swap {g h : Heap} {L : Addr} {a b : List (Addr × Obj)} (N : News g L h (a ++ b)) : News g L h (b ++ a) := fun p hp => N p ((List.mem_append.mp hp).elim (fun z => List.mem_append_right _ z) fun z => List.mem_append_left _ z)
theorem first_bad : readF 8 (PySem.Str.ofString "k='<'") (([] : List (PySem.Str × PySem.Str)).map (·.1)) = some none := by
  have e : cs (PySem.Str.ofString "k='<'") = [107] ++ ([] ++ 61 :: ([] ++ [39, 60, 39])) := by decide +kernel
  rw [readF_sign e (by decide) (by decide) (by decide) (by decide), if_neg (by simp), if_neg (by decide), if_pos (by decide),
    readQ_at' (pre := [107, 61, 39]) (raw := [60]) (r := []) e (by decide) (by decide), if_pos (by decide)]
/-- a row's texts are texts of Unicode -/
def RowsOk (rs : List (PySem.Str × PySem.Str)) : Prop := ∀ r ∈ rs, PyData.strOk r.1 = true ∧ PyData.strOk r.2 = true
theorem ok_rows {rs : List (PySem.Str × PySem.Str)} (h : RowsOk rs) (d : Dat) : kqdOk 8 (.tuple [.list (rs.map rowD), d]) = kqdOk 7 d := by
  have e : (rs.map rowD).all (kqdOk 6) = true := by
    rw [List.all_map, List.all_eq_true]
    intro r hr
    have := h r hr
    simp [rowD, kqdOk, this.1, this.2]
  simp [kqdOk, e]
section
variable {prog : Program} {w : World} {A : Around} {E : Value → Shared → Prop} {s : Shared} {h₀ : Heap} {L t l : Addr} {k j : Nat} {news n2 : List (Addr × Obj)} {v : Value} {Q : Value → Shared → Prop} {T : PySem.Str} {rs : List (PySem.Str × PySem.Str)} {vs : List Value}
theorem ansD_none : ansD T rs none = .tuple [.list (rs.map rowD), .none] := rfl
theorem ansD_some {nm : PySem.Str} {m : List Nat} {e : Int} : ansD T rs (some (nm, m, e)) = .tuple [.list ((rs ++ [(nm, (⟨m.toArray⟩ : PySem.Str))]).map rowD), .str (Txt.slice T (some e) none)] := rfl
/-- what is asked is refused, as it was to be -/
theorem ask_none (N : News h₀ L s.heap news) (dat : DatIn n2 v (ansD T rs none)) (sub : ∀ p ∈ n2, p ∈ news) (ht : (t, ({ cls := .type "tuple", data := .seq #[.ref l, .none] j } : Obj)) ∈ news) (hl : (l, W.listOf vs.toArray k) ∈ news) (hD : DatAll news vs (rs.map rowD)) (hok : RowsOk rs) (hu : A.units + 64 < cLine)
    (h : Q (.bool false) s) : wpAny (model prog w) A (compareOp .NotEq v (.ref t)) Q E s := by
  rw [ansD_none] at dat
  refine dat_ne N (dat.mono sub) (.tuple (vs := [.ref l, .none]) ht (.cons (.list hl hD) (.cons .none .nil))) (by rw [ok_rows hok]; rfl) (by rw [ok_rows hok]; rfl) hu ?_
  refine (congrArg (fun b => Q (.bool b) s) ?_).mpr h
  simp
/-- what is asked is read, as it was to be -/
theorem ask_some {nm rest : PySem.Str} {tr : Tok} {m : List Nat} {e : Int} (N : News h₀ L s.heap news) (dat : DatIn n2 v (ansD T rs (some (nm, m, e)))) (sub : ∀ p ∈ n2, p ∈ news) (ht : (t, ({ cls := .type "tuple", data := .seq #[.ref l, .str rest tr] j } : Obj)) ∈ news) (hl : (l, W.listOf vs.toArray k) ∈ news)
    (hD : DatAll news vs ((rs ++ [(nm, (⟨m.toArray⟩ : PySem.Str))]).map rowD)) (hsl : Txt.slice T (some e) none = rest) (hok : RowsOk (rs ++ [(nm, (⟨m.toArray⟩ : PySem.Str))])) (hr : PyData.strOk rest = true) (hu : A.units + 64 < cLine)
    (h : Q (.bool false) s) : wpAny (model prog w) A (compareOp .NotEq v (.ref t)) Q E s := by
  rw [ansD_some, hsl] at dat
  refine dat_ne N (dat.mono sub) (.tuple (vs := [.ref l, .str rest tr]) ht (.cons (.list hl hD) (.cons (.str _ _) .nil))) (by rw [ok_rows hok]; exact hr) (by rw [ok_rows hok]; exact hr) hu ?_
  refine (congrArg (fun b => Q (.bool b) s) ?_).mpr h
  simp
end
theorem strOk_iff {x : PySem.Str} : PyData.strOk x = true ↔ ∀ c ∈ cs x, c < 0x110000 := by
  unfold PyData.strOk
  rw [Array.all_eq_true_iff_forall_mem]
  simp [cs]
end Xm
end

section
open PySem PySem.W PySem.Calls PyProof.Rows PySem.Spec
set_option maxRecDepth 100000
set_option maxHeartbeats 4000000
namespace Xm
theorem datAll_len {news : List (Addr × Obj)} : ∀ {vs : List Value} {ds : List Dat}, DatAll news vs ds → vs.length = ds.length
  | _, _, .nil => rfl
  | _, _, .cons _ r => by rw [List.length_cons, List.length_cons, datAll_len r]
theorem datAll_app {news : List (Addr × Obj)} {ws : List Value} {es : List Dat} (h2 : DatAll news ws es) : ∀ {vs : List Value} {ds : List Dat}, DatAll news vs ds → DatAll news (vs ++ ws) (ds ++ es)
  | _, _, .nil => h2
  | _, _, .cons a r => .cons a (datAll_app h2 r)
theorem datAll_row {news : List (Addr × Obj)} {vs : List Value} {rs : List (PySem.Str × PySem.Str)} {a : Addr} {x y : PySem.Str} {t u : Tok} (h : DatAll news vs (rs.map rowD)) (hm : (a, tupO x t y u) ∈ news) : DatAll news (vs ++ [.ref a]) ((rs ++ [(x, y)]).map rowD) := by
  rw [List.map_append]
  exact datAll_app (.cons (.tuple (vs := [.str x t, .str y u]) hm (.cons (.str _ _) (.cons (.str _ _) .nil))) .nil) h
theorem rows_add {prog : Program} {w : World} {A : Around} {E : Value → Shared → Prop} {s : Shared} {h₀ : Heap} {L : Addr} {m : PySem.Str → Option Value} {news : List (Addr × Obj)} {l b : Addr} {k k2 : Nat} {vs ws : List Value} {Q : Value → Shared → Prop} (F : Fr h₀ L s.heap m) (N : News h₀ L s.heap news)
    (hl : (l, W.listOf vs.toArray k) ∈ news) (hb : (b, W.listOf ws.toArray k2) ∈ news) (hlen : vs.length + ws.length ≤ 1000)
    (h : ∀ (D : Addr) h', Fr h₀ L h' m → News h₀ L h' ((D, W.listOf (vs ++ ws).toArray 0) :: news) → (∀ p ∈ news, @LT.lt Nat _ p.1 D) → Q (.ref D) { s with heap := h' }) : wpAny (model prog w) A (binaryOp .Add (.ref l) (.ref b)) Q E s :=
  add_lists (vs := vs) (ws := ws) F N ⟨_, (N _ hl).1, rfl, _, rfl⟩ ⟨_, (N _ hb).1, rfl, _, rfl⟩ (fun h' F' N' => h _ h' F' N' fun p hp => Heap.lt_size (N p hp).1) (by show _ ≤ 16777216; omega)
theorem ok_row {rs : List (PySem.Str × PySem.Str)} {x y : PySem.Str} (h : RowsOk rs) (hx : PyData.strOk x = true) (hy : PyData.strOk y = true) : RowsOk (rs ++ [(x, y)]) := fun r hr =>
  (List.mem_append.mp hr).elim (fun z => h r z) fun z => by rw [List.mem_singleton.mp z]; exact ⟨hx, hy⟩
theorem name_ok {nm : PySem.Str} (h : nm ∈ nameL) : PyData.strOk nm = true := by
  have : ∀ x ∈ nameL, PyData.strOk x = true := by decide +kernel
  exact this nm h
theorem meant_ok {o meant : PySem.Str} {q : Nat} {ps : List (PySem.Str × PySem.Str)} (hq : (q = 34 ∧ o = PySem.Str.ofString "'") ∨ (q = 39 ∧ o = PySem.Str.ofString "\"")) (hp : ∀ x ∈ ps, x ∈ tblV o) (hm : cs meant = catS (ps.map (·.2))) : PyData.strOk meant = true := by
  have ho : PyData.strOk o = true := by rcases hq with ⟨_, rfl⟩ | ⟨_, rfl⟩ <;> decide +kernel
  refine strOk_iff.mpr fun c hc => ?_
  rw [hm, flat_map] at hc
  obtain ⟨l, hl, hz⟩ := List.mem_flatten.mp hc
  obtain ⟨x, hx, rfl⟩ := List.mem_map.mp hl
  have key : ∀ x ∈ tblV o, PyData.strOk x.2 = true := by
    intro x hx
    unfold tblV at hx
    simp only [List.mem_cons, List.not_mem_nil, or_false] at hx
    rcases hx with rfl | rfl | rfl | rfl | rfl | rfl <;> first | exact ho | decide +kernel
  exact strOk_iff.mp (key x (hp x hx)) c hz
theorem news_nil {g h : Heap} {L : Addr} {a : List (Addr × Obj)} (_ : News g L h a) : News g L h [] := fun _ hp => nomatch hp
theorem news_sub {g h : Heap} {L : Addr} {a b : List (Addr × Obj)} (N : News g L h a) (k : ∀ p ∈ b, p ∈ a) : News g L h b := fun p hp => N p (k p hp)
/-- the quotes -/
def tblQ : List (PySem.Str × PySem.Str) := [(PySem.Str.ofString "\"", PySem.Str.ofString "'"), (PySem.Str.ofString "'", PySem.Str.ofString "\"")]
theorem quote_ok {qu oo : PySem.Str} (h : (qu, oo) ∈ tblQ) : ∃ q, ((q = 34 ∧ oo = PySem.Str.ofString "'") ∨ (q = 39 ∧ oo = PySem.Str.ofString "\"")) ∧ cs qu = [q] ∧ qu.length ≤ 1 ∧ oo.length ≤ 10 ∧ PyData.strOk qu = true := by
  unfold tblQ at h
  simp only [List.mem_cons, List.not_mem_nil, or_false, Prod.mk.injEq] at h
  rcases h with ⟨rfl, rfl⟩ | ⟨rfl, rfl⟩
  · exact ⟨34, .inl ⟨rfl, rfl⟩, by decide +kernel, by decide +kernel, by decide +kernel, by decide +kernel⟩
  · exact ⟨39, .inr ⟨rfl, rfl⟩, by decide +kernel, by decide +kernel, by decide +kernel, by decide +kernel⟩
/-- the attributes that are known ahead -/
def RowsL (rs : List (PySem.Str × PySem.Str)) : Prop := rs = [] ∨ rs = [(PySem.Str.ofString "x", PySem.Str.ofString "1")] ∨ rs = [(PySem.Str.ofString "x", PySem.Str.ofString "1"), (PySem.Str.ofString "K", PySem.Str.ofString "")]
theorem rows_pick {news : List (Addr × Obj)} {a b : Addr} {t1 t2 t3 t4 : Tok} {f : Int} (ha : (a, tupO (PySem.Str.ofString "x") t1 (PySem.Str.ofString "1") t2) ∈ news) (hb : (b, tupO (PySem.Str.ofString "K") t3 (PySem.Str.ofString "") t4) ∈ news) (h0 : 0 ≤ f) (h1 : f < 3) :
    ∃ (vs : List Value) (rs : List (PySem.Str × PySem.Str)), slicePick #[.ref a, .ref b] none (some f) none = vs.toArray ∧ DatAll news vs (rs.map rowD) ∧ RowsL rs := by
  have D1 : DatIn news (.ref a) (rowD (PySem.Str.ofString "x", PySem.Str.ofString "1")) := .tuple (vs := [.str _ _, .str _ _]) ha (.cons (.str _ _) (.cons (.str _ _) .nil))
  have D2 : DatIn news (.ref b) (rowD (PySem.Str.ofString "K", PySem.Str.ofString "")) := .tuple (vs := [.str _ _, .str _ _]) hb (.cons (.str _ _) (.cons (.str _ _) .nil))
  have : f = 0 ∨ f = 1 ∨ f = 2 := by omega
  rcases this with rfl | rfl | rfl
  · exact ⟨[], [], by rfl, .nil, .inl rfl⟩
  · exact ⟨[.ref a], [(PySem.Str.ofString "x", PySem.Str.ofString "1")], by rfl, .cons D1 .nil, .inr (.inl rfl)⟩
  · exact ⟨[.ref a, .ref b], [(PySem.Str.ofString "x", PySem.Str.ofString "1"), (PySem.Str.ofString "K", PySem.Str.ofString "")], by rfl, .cons D1 (.cons D2 .nil), .inr (.inr rfl)⟩
theorem rows_len {rs : List (PySem.Str × PySem.Str)} (h : RowsL rs) : rs.length ≤ 2 := by
  rcases h with rfl | rfl | rfl <;> simp
theorem rows_step {g h : Heap} {L R a b : Addr} {x : Addr × Obj} {rest : List (Addr × Obj)} {t1 t2 t3 t4 : Tok} {f : Int}
    (N : News g L h ((R, W.listOf (slicePick #[.ref a, .ref b] none (some f) none) 0) :: x :: (b, tupO (PySem.Str.ofString "K") t3 (PySem.Str.ofString "") t4) :: (a, tupO (PySem.Str.ofString "x") t1 (PySem.Str.ofString "1") t2) :: rest)) (h0 : 0 ≤ f) (h1 : f < 3) :
    ∃ (vs : List Value) (rs : List (PySem.Str × PySem.Str)), DatAll [(b, tupO (PySem.Str.ofString "K") t3 (PySem.Str.ofString "") t4), (a, tupO (PySem.Str.ofString "x") t1 (PySem.Str.ofString "1") t2)] vs (rs.map rowD) ∧ RowsL rs ∧ vs.length ≤ 2 ∧
      News g L h ((R, W.listOf vs.toArray 0) :: (b, tupO (PySem.Str.ofString "K") t3 (PySem.Str.ofString "") t4) :: (a, tupO (PySem.Str.ofString "x") t1 (PySem.Str.ofString "1") t2) :: rest) := by
  obtain ⟨vs, rs, e, hD, hrs⟩ := rows_pick (news := [(b, tupO (PySem.Str.ofString "K") t3 (PySem.Str.ofString "") t4), (a, tupO (PySem.Str.ofString "x") t1 (PySem.Str.ofString "1") t2)]) (a := a) (b := b) (.tail _ (.head _)) (.head _) h0 h1
  rw [e] at N
  exact ⟨vs, rs, hD, hrs, by rw [datAll_len hD, List.length_map]; exact rows_len hrs, news_sub N (List.forall_mem_cons.mpr ⟨.head _, fun p hp => .tail _ (.tail _ hp)⟩)⟩
theorem rows_facts {nm : PySem.Str} {rs : List (PySem.Str × PySem.Str)} (h : RowsL rs) (h1 : nm ≠ PySem.Str.ofString "x") (h2 : nm ≠ PySem.Str.ofString "K") : nm ∉ rs.map (·.1) ∧ (rs.map (·.1)).Nodup ∧ RowsOk rs := by
  rcases h with rfl | rfl | rfl
  · exact ⟨List.not_mem_nil, List.nodup_nil, List.forall_mem_nil _⟩
  · exact ⟨by simp [h1], by simp, by unfold RowsOk; decide +kernel⟩
  · exact ⟨by simp [h1, h2], by decide +kernel, by unfold RowsOk; decide +kernel⟩
theorem again_facts {nm z : PySem.Str} {rs : List (PySem.Str × PySem.Str)} (hk : nm ∉ rs.map (·.1)) (hn : (rs.map (·.1)).Nodup) : nm ∈ (rs ++ [(nm, z)]).map (·.1) ∧ ((rs ++ [(nm, z)]).map (·.1)).Nodup := by
  rw [List.map_append]
  refine ⟨List.mem_append_right _ (.head _), List.nodup_append.mpr ⟨hn, by simp, fun a ha b hb e => ?_⟩⟩
  rw [List.mem_singleton.mp hb] at e
  have e' : a = nm := e
  exact hk (e' ▸ ha)
/-- what stands behind the attribute -/
def restL (qu : PySem.Str) : List PySem.Str := [PySem.Str.ofString "", PySem.Str.ofString ">", PySem.Str.ofString "/>", PySem.Str.ofString " y='2'", qu]
theorem restL_ok {qu : PySem.Str} (h : qu.length ≤ 1) (hq : PyData.strOk qu = true) : ∀ x ∈ restL qu, x.length ≤ 10 ∧ PyData.strOk x = true := by
  intro x hx
  unfold restL at hx
  simp only [List.mem_cons, List.not_mem_nil, or_false] at hx
  rcases hx with rfl | rfl | rfl | rfl | rfl
  · exact ⟨by decide +kernel, by decide +kernel⟩
  · exact ⟨by decide +kernel, by decide +kernel⟩
  · exact ⟨by decide +kernel, by decide +kernel⟩
  · exact ⟨by decide +kernel, by decide +kernel⟩
  · exact ⟨by omega, hq⟩
theorem sg_len {a b : PySem.Str} (ha : a.length ≤ 4) (hb : b.length ≤ 4) : (a ++ PySem.Str.ofString "=" ++ b).length ≤ 10 := by
  have e1 : (PySem.Str.ofString "=").length = 1 := by decide +kernel
  rw [PySem.Str.length_append, PySem.Str.length_append]
  omega
theorem T_len {nm sg qu raw rest : PySem.Str} (h1 : nm.length ≤ 10) (h2 : sg.length ≤ 10) (h3 : qu.length ≤ 1) (h4 : raw.length ≤ 100) (h5 : rest.length ≤ 10) : (nm ++ sg ++ qu ++ raw ++ qu ++ rest).length ≤ 1000 := by
  simp only [PySem.Str.length_append]
  omega
section
variable {prog : Program} {w : World} {A : Around} {E : Value → Shared → Prop} {s : Shared} {env : Env} {h₀ : Heap} {x : PySem.Str} {body : List Stmt} {Q : Flow → Shared → Prop}
/-- a loop over a list whose turns leave the ledger as it is, and store no name but the loop's own -/
theorem list_ind {I : Addr} {lp : Addr × Obj} {m₀ : PySem.Str → Option Value} {news : List (Addr × Obj)} {P : Value → Prop} (hlp : lp ∈ news)
    (turn : ∀ v, P v → ∀ (it : Obj) h tk, it.cls = .type "list_iterator" → Fr h₀ env.locals h (fun y => if y = x then some v else m₀ y) → News h₀ env.locals h ((I, it) :: news) →
      wpAny (model prog w) A (execs body env) (UnrPost h₀ env.locals { s with heap := h, toks := tk } I it (fun m' n' => (∀ z, z ≠ x → m' z = m₀ z) ∧ n' = news) Q) E { s with heap := h, toks := tk })
    (fin : ∀ m h tk, (∀ z, z ≠ x → m z = m₀ z) → Fr h₀ env.locals h m → News h₀ env.locals h news → Q .next { s with heap := h, toks := tk }) :
    ∀ (r : List Value) (m : PySem.Str → Option Value), (∀ v ∈ r, P v) → (∀ z, z ≠ x → m z = m₀ z) → ListRest prog w A E h₀ env x body Q s I lp r m news
  | [], m, _, hm => ListRest.zero fun h tk F N => fin m h tk hm F N
  | v :: r, m, hr, hm => ListRest.succ fun it h tk hit F N => by
    have e : (fun y => if y = x then some v else m y) = fun y => if y = x then some v else m₀ y := by
      funext y
      by_cases z : y = x
      · simp [z]
      · simp [z, hm y z]
    rw [e] at F
    refine wpAny_mono (turn v (hr v (.head _)) it h tk hit F N) (fun f s₂ p => ?_) fun _ _ z => z
    cases f with
    | ret v => exact p
    | brk => exact p
    | next =>
      obtain ⟨h', tk', m', n', e1, F', N', off, hm', rfl⟩ := p
      exact ⟨h', tk', m', _, e1, F', N', off, hlp, list_ind hlp turn fin r m' (fun v hv => hr v (.tail _ hv)) hm'⟩
    | cont =>
      obtain ⟨h', tk', m', n', e1, F', N', off, hm', rfl⟩ := p
      exact ⟨h', tk', m', _, e1, F', N', off, hlp, list_ind hlp turn fin r m' (fun v hv => hr v (.tail _ hv)) hm'⟩
theorem list_run {I : Addr} {lp : Addr × Obj} {m₀ : PySem.Str → Option Value} {news : List (Addr × Obj)} {r : List Value} (P : Value → Prop) (hlp : lp ∈ news) (hP : ∀ v ∈ r, P v)
    (turn : ∀ v, P v → ∀ (it : Obj) h tk, it.cls = .type "list_iterator" → Fr h₀ env.locals h (fun y => if y = x then some v else m₀ y) → News h₀ env.locals h ((I, it) :: news) →
      wpAny (model prog w) A (execs body env) (UnrPost h₀ env.locals { s with heap := h, toks := tk } I it (fun m' n' => (∀ z, z ≠ x → m' z = m₀ z) ∧ n' = news) Q) E { s with heap := h, toks := tk })
    (fin : ∀ m h tk, (∀ z, z ≠ x → m z = m₀ z) → Fr h₀ env.locals h m → News h₀ env.locals h news → Q .next { s with heap := h, toks := tk }) : ListRest prog w A E h₀ env x body Q s I lp r m₀ news :=
  list_ind hlp turn fin r m₀ hP fun _ _ => rfl
end
theorem caller_units (env : Env) : (callerA.deeper env).units + 64 < cLine := Nat.le_of_ble_eq_true rfl
end Xm
end

section
open PySem PySem.W PySem.Calls PyProof.Rows PySem.Spec
set_option maxRecDepth 100000
set_option maxHeartbeats 4000000
namespace Xm
section
variable {prog : Program} {w : World} {A : Around} {mean : ExcName → Option Value} {mg mb : PySem.Str → Option Value} {E : Value → Shared → Prop} {hp0 : Heap} {gn : Array GenState} {dr : Drawn} {tk0 : Nat} {os : OsState} {base h₀ : Heap} {outer : List Env} {d u : Nat} {gs : Option (List Code)} {L : Addr} {m : PySem.Str → Option Value} {env : Env} {news : List (Addr × Obj)} {Q : Value → Shared → Prop}
  {src th : Addr} {p q : Int} {tp tq : Tok} {k kt : Nat} {vs : List Value} {U : Obj → List (Addr × Obj)}
theorem take_callL {top : Int} {tt : Tok} (F : Fr h₀ L hp0 m) (B : Below ⟨none, d, some outer, gs, u⟩ base outer h₀) (X : (hd.heap_39 w.params).In h₀) (N : News h₀ L hp0 news) (T : Top hd.view_39 (looseW hd.view_39 [Str.ofString "ENDS"]) mean mg mb h₀)
    (hf : env.frame = some L) (hk : env.scope.kind = .function) (hdp : d + 5 ≤ 400) (hup : u + 19 ≤ 4000)
    (hU : UpdF src (W.listOf #[.int p tp, .int q tq] k) news U) (hp : 0 ≤ p) (hq : 0 ≤ q) (hq2 : q < 2147483647) (h1 : 1 ≤ top) (h2 : top ≤ 1000)
    (hok : ∀ f tf p' q' tp' tq' h' tk, 0 ≤ f → f < top → 0 ≤ p' → 0 ≤ q' → q' < 2147483647 → Fr h₀ L h' m → News h₀ L h' (U (W.listOf #[.int p' tp', .int q' tq'] k)) → Q (.int f tf) ⟨h', gn, dr, tk, os⟩) :
    wpAny (model PySem.Challenge.rw_xm0717_01.row.prog w) ((⟨none, d, some outer, gs, u⟩ : Around).deeper env) (call (.ref 135) [.ref src, .int top tt]) Q E ⟨hp0, gn, dr, tk0, os⟩ :=
  take_callU (s := ⟨hp0, gn, dr, tk0, os⟩) F B X N T hf hk hdp hup hU hp hq hq2 h1 h2 hok
theorem one_callL (F : Fr h₀ L hp0 m) (B : Below ⟨none, d, some outer, gs, u⟩ base outer h₀) (X : (hd.heap_39 w.params).In h₀) (N : News h₀ L hp0 news) (T : Top hd.view_39 (looseW hd.view_39 [Str.ofString "ENDS"]) mean mg mb h₀)
    (hf : env.frame = some L) (hk : env.scope.kind = .function) (hdp : d + 9 ≤ 400) (hup : u + 35 ≤ 4000)
    (hU : UpdF src (W.listOf #[.int p tp, .int q tq] k) news U) (ht : (th, W.listOf vs.toArray kt) ∈ news) (hne : @Ne Nat th src) (hp : 0 ≤ p) (hq : 0 ≤ q) (hq2 : q < 2147483647) (h1 : 1 ≤ vs.length) (h2 : vs.length ≤ 1000)
    (hok : ∀ v p' q' tp' tq' h' tk, v ∈ vs → 0 ≤ p' → 0 ≤ q' → q' < 2147483647 → Fr h₀ L h' m → News h₀ L h' (U (W.listOf #[.int p' tp', .int q' tq'] k)) → Q v ⟨h', gn, dr, tk, os⟩) :
    wpAny (model PySem.Challenge.rw_xm0717_01.row.prog w) ((⟨none, d, some outer, gs, u⟩ : Around).deeper env) (call (.ref 142) [.ref src, .ref th]) Q E ⟨hp0, gn, dr, tk0, os⟩ :=
  one_callU (s := ⟨hp0, gn, dr, tk0, os⟩) F B X N T hf hk hdp hup hU ht hne hp hq hq2 h1 h2 hok
theorem blanks_callL (F : Fr h₀ L hp0 m) (B : Below ⟨none, d, some outer, gs, u⟩ base outer h₀) (X : (hd.heap_39 w.params).In h₀) (N : News h₀ L hp0 news) (T : Top hd.view_39 (looseW hd.view_39 [Str.ofString "ENDS"]) mean mg mb h₀)
    (hf : env.frame = some L) (hk : env.scope.kind = .function) (hdp : d + 13 ≤ 400) (hup : u + 51 ≤ 4000)
    (hU : UpdF src (W.listOf #[.int p tp, .int q tq] k) news U) (hp : 0 ≤ p) (hq : 0 ≤ q) (hq2 : q < 2147483647)
    (hok : ∀ x tx p' q' tp' tq' h' tk, x ∈ blankL → 0 ≤ p' → 0 ≤ q' → q' < 2147483647 → Fr h₀ L h' m → News h₀ L h' (U (W.listOf #[.int p' tp', .int q' tq'] k)) → Q (.str x tx) ⟨h', gn, dr, tk, os⟩) :
    wpAny (model PySem.Challenge.rw_xm0717_01.row.prog w) ((⟨none, d, some outer, gs, u⟩ : Around).deeper env) (call (.ref 156) [.ref src]) Q E ⟨hp0, gn, dr, tk0, os⟩ :=
  blanks_callU (s := ⟨hp0, gn, dr, tk0, os⟩) F B X N T hf hk hdp hup hU hp hq hq2 hok
theorem pool_callL {sc : Addr} {vs : List Value} {ns : List Int} (F : Fr h₀ L hp0 m) (B : Below ⟨none, d, some outer, gs, u⟩ base outer h₀) (X : (hd.heap_39 w.params).In h₀) (N : News h₀ L hp0 news) (T : Top hd.view_39 (looseW hd.view_39 [Str.ofString "ENDS"]) mean mg mb h₀)
    (hf : env.frame = some L) (hk : env.scope.kind = .function) (hL : h₀.IsList sc vs.toArray) (hI : IntsAre vs ns) (hlen : ns.length ≤ 63) (hdp : d + 21 ≤ 400) (hup : u + 83 ≤ 4000)
    (hok : ∀ (P : Addr) (p q : Int) (tp tq : Tok) h' tk, 0 ≤ p → 0 ≤ q → q < 2147483647 → Fr h₀ L h' m → News h₀ L h' ((P, W.listOf #[.int p tp, .int q tq] 0) :: news) → Q (.ref P) ⟨h', gn, dr, tk, os⟩) :
    wpAny (model PySem.Challenge.rw_xm0717_01.row.prog w) ((⟨none, d, some outer, gs, u⟩ : Around).deeper env) (call (.ref 128) [.ref sc]) Q E ⟨hp0, gn, dr, tk0, os⟩ :=
  pool_call (s := ⟨hp0, gn, dr, tk0, os⟩) F B X N T hf hk hL hI hlen hdp hup hok
theorem value_callL {o : PySem.Str} {to : Tok} (F : Fr h₀ L hp0 m) (B : Below ⟨none, d, some outer, gs, u⟩ base outer h₀) (X : (hd.heap_39 w.params).In h₀) (N : News h₀ L hp0 news) (T : Top hd.view_39 (looseW hd.view_39 [Str.ofString "ENDS"]) mean mg mb h₀)
    (hf : env.frame = some L) (hk : env.scope.kind = .function) (hdp : d + 21 ≤ 400) (hup : u + 83 ≤ 4000)
    (hU : UpdF src (W.listOf #[.int p tp, .int q tq] k) news U) (hp : 0 ≤ p) (hq : 0 ≤ q) (hq2 : q < 2147483647) (ho : o.length ≤ 10)
    (hok : ∀ (t : Addr) (raw meant : PySem.Str) (tr tm : Tok) (p' q' : Int) (tp' tq' : Tok) (ps : List (PySem.Str × PySem.Str)) h' tk, @Ne Nat t src → ps.length ≤ 3 → (∀ x ∈ ps, x ∈ tblV o) → raw.cps.toList = catS (ps.map (·.1)) → meant.cps.toList = catS (ps.map (·.2)) → 0 ≤ p' → 0 ≤ q' → q' < 2147483647 →
      Fr h₀ L h' m → News h₀ L h' ((t, tupO raw tr meant tm) :: U (W.listOf #[.int p' tp', .int q' tq'] k)) → Q (.ref t) ⟨h', gn, dr, tk, os⟩) :
    wpAny (model PySem.Challenge.rw_xm0717_01.row.prog w) ((⟨none, d, some outer, gs, u⟩ : Around).deeper env) (call (.ref 161) [.ref src, .str o to]) Q E ⟨hp0, gn, dr, tk0, os⟩ :=
  value_callU (s := ⟨hp0, gn, dr, tk0, os⟩) F B X N T hf hk hdp hup hU hp hq hq2 ho hok
theorem wrong_callL {tn ts tu tr : Tok} {nm sg qu raw : PySem.Str} (F : Fr h₀ L hp0 m) (B : Below ⟨none, d, some outer, gs, u⟩ base outer h₀) (X : (hd.heap_39 w.params).In h₀) (N : News h₀ L hp0 news) (T : Top hd.view_39 (looseW hd.view_39 [Str.ofString "ENDS"]) mean mg mb h₀)
    (hf : env.frame = some L) (hk : env.scope.kind = .function) (hdp : d + 21 ≤ 400) (hup : u + 83 ≤ 4000)
    (hU : UpdF src (W.listOf #[.int p tp, .int q tq] k) news U) (hp : 0 ≤ p) (hq : 0 ≤ q) (hq2 : q < 2147483647) (hn : nm.length ≤ 10) (hs : sg.length ≤ 10) (hu : qu.length ≤ 10) (hr : raw.length ≤ 100)
    (hok : ∀ (wr : Addr) (x0 x1 x2 x3 x4 x5 : PySem.Str) (t0 t1 t2 t3 t4 t5 : Tok) (p' q' : Int) (tp' tq' : Tok) h' tk, @Ne Nat wr src → (∀ x ∈ [x0, x1, x2, x3, x4, x5], WrongT nm sg qu raw x) → 0 ≤ p' → 0 ≤ q' → q' < 2147483647 →
      Fr h₀ L h' m → News h₀ L h' ((wr, W.listOf #[.str x0 t0, .str x1 t1, .str x2 t2, .str x3 t3, .str x4 t4, .str x5 t5] 0) :: U (W.listOf #[.int p' tp', .int q' tq'] k)) → Q (.ref wr) ⟨h', gn, dr, tk, os⟩) :
    wpAny (model PySem.Challenge.rw_xm0717_01.row.prog w) ((⟨none, d, some outer, gs, u⟩ : Around).deeper env) (call (.ref 168) [.ref src, .str nm tn, .str sg ts, .str qu tu, .str raw tr]) Q E ⟨hp0, gn, dr, tk0, os⟩ :=
  wrong_callU (s := ⟨hp0, gn, dr, tk0, os⟩) F B X N T hf hk hdp hup hU hp hq hq2 hn hs hu hr hok
theorem asked_callL {T : PySem.Str} {tT : Tok} {rl : Addr} {kr : Nat} {vs : List Value} {rs : List (PySem.Str × PySem.Str)} {n : Nat} {res : Option (PySem.Str × List Nat × Int)} {Q : Value → Shared → Prop}
    (F : Fr h₀ L hp0 m) (B : Below ⟨none, d, some [], gs, u⟩ base [] h₀) (X : (hd.heap_39 w.params).In h₀) (N : News h₀ L hp0 news) (Tp : Top hd.view_39 (looseW hd.view_39 [Str.ofString "ENDS"]) mean mg mb h₀)
    (XB : (hd.heap_39 w.params).In base) (TB : Top hd.view_39 (looseW hd.view_39 [Str.ofString "ENDS"]) mean mg mb base) (hf : env.frame = some L) (hk : env.scope.kind = .function) (hdp : d + 51 ≤ 400) (hup : u + 203 ≤ 4000)
    (hT0 : T.length ≤ 100000) (hl : (rl, W.listOf vs.toArray kr) ∈ news) (hD : DatAll news vs (rs.map rowD)) (hlen : rs.length ≤ 1000) (hnd : (rs.map (·.1)).Nodup) (hres : readF n T (rs.map (·.1)) = some res)
    (hok : ∀ v news' h' tk, DatIn news' v (ansD T rs res) → Fr h₀ L h' m → News h₀ L h' (news' ++ news) → Q v ⟨h', gn, dr, tk, os⟩) :
    wpAny (model PySem.Challenge.rw_xm0717_01.row.prog w) ((⟨none, d, some [], gs, u⟩ : Around).deeper env) (call (.ref 149) [.str T tT, .ref rl]) Q E ⟨hp0, gn, dr, tk0, os⟩ :=
  asked_call (s := ⟨hp0, gn, dr, tk0, os⟩) F B X N Tp XB TB hf hk hdp hup hT0 hl hD hlen hnd hres hok
theorem rows_addL {prog : Program} {w : World} {A : Around} {E : Value → Shared → Prop}  {h₀ : Heap} {L : Addr} {m : PySem.Str → Option Value} {news : List (Addr × Obj)} {l b : Addr} {k k2 : Nat} {vs ws : List Value} {Q : Value → Shared → Prop} (F : Fr h₀ L hp0 m) (N : News h₀ L hp0 news)
    (hl : (l, W.listOf vs.toArray k) ∈ news) (hb : (b, W.listOf ws.toArray k2) ∈ news) (hlen : vs.length + ws.length ≤ 1000)
    (h : ∀ (D : Addr) h', Fr h₀ L h' m → News h₀ L h' ((D, W.listOf (vs ++ ws).toArray 0) :: news) → (∀ p ∈ news, @LT.lt Nat _ p.1 D) → Q (.ref D) ⟨h', gn, dr, tk0, os⟩) : wpAny (model prog w) A (binaryOp .Add (.ref l) (.ref b)) Q E ⟨hp0, gn, dr, tk0, os⟩ :=
  rows_add (s := ⟨hp0, gn, dr, tk0, os⟩) F N hl hb hlen h
end
end Xm
end

section
open PySem PySem.W PySem.Calls PyProof.Rows PySem.Spec
set_option maxRecDepth 100000
set_option maxHeartbeats 8000000
namespace Xm
theorem holds : PySem.Challenge.rw_xm0717_01.Holds := hd (by
  k_go0
  generalize hR9 : GoodW _ _ _ _ _ = R9
  all_goals (try k_fold)
  iterate 60 try ((fail_if_success (with_reducible show wpAny _ _ (call (Value.ref 149) _ _) _ _ _)); (first | (k_unfold; (try dsimp only)) | (k_end; wrow_close) | walk1 | (dsimp only; walk1) | fail "no step"))
  rename_i w s0 s1 mg mb G Y fa of pm doc kV ho hg KX XX V GL T BT TE TW wA wO M wC wP hcd ns hs hlay0 hL1 hr1 hl2 w4 w3 sc vs w5 hL ra w1 r0 hI hr hc1 hc2 K0 hD h1 la ha F1 N1 l1
  clear hcd hD hs hlay0 hL1 hr1 hl2 ra w1 r0 hr hc2 G Y XX V GL BT TE TW M ho l1
  have hlen : ns.length ≤ 63 := by omega
  clear hc1
  refine' asked_callL (n := 8) (vs := []) (rs := []) (res := none) F1 K0 KX N1 T KX T rfl rfl ?kd ?ku ?kT0 ?kl ?kD ?klen ?knd ?kres ?_
  case kd => decide
  case ku => decide
  case kT0 => decide +kernel
  case kl => exact .head _
  case kD => exact .nil
  case klen => decide
  case knd => decide
  case kres => exact first_bad
  intro v2 news2 h2 tk2 dat2 F2 N2
  replace N2 := news_swap N2
  (simp only [List.cons_append, List.nil_append] at N2)
  iterate 60 try ((fail_if_success (with_reducible show wpAny _ _ (compareOp CmpOp.NotEq _ _) _ _ _)); (first | (k_unfold; (try dsimp only)) | (k_end; wrow_close) | walk1 | (dsimp only; walk1) | fail "no step"))
  (with_reducible rename News _ _ _ _ => N3)
  refine ask_none (rs := []) (vs := []) N3 dat2 (fun p hp => .tail _ (.tail _ (.tail _ hp))) (.head _) (.tail _ (.head _)) .nil (List.forall_mem_nil _) (caller_units _) ?_
  (with_reducible rename Fr _ _ _ _ => F3)
  replace N3 := news_nil N3
  (try clear N2); (try clear N1); (try clear F1); (try clear F2); (try clear dat2)
  iterate 60 try ((fail_if_success (with_reducible show wpAny _ _ (call (Value.ref 128) _ _) _ _ _)); (first | (k_unfold; (try dsimp only)) | (k_end; wrow_close) | walk1 | (dsimp only; walk1) | fail "no step"))
  refine pool_callL F3 K0 KX N3 T rfl rfl hL hI hlen (by decide) (by decide) ?_
  intro src p4 q4 tp4 tq4 h4 tk4 bp4 bq4 bqq4 F4 N4
  (try clear hL); (try clear hlen); (try clear N3); (try clear F3)
  iterate 60 try ((fail_if_success (with_reducible show wpAny _ _ (call (Value.ref 142) _ _) _ _ _)); (first | (k_unfold; (try dsimp only)) | (k_end; wrow_close) | walk1 | (dsimp only; walk1) | fail "no step"))
  refine' one_callL ?kF K0 KX ?kN T rfl rfl ?kd ?ku ?kU ?km ?kne ?kp ?kq ?kq2 ?k1 ?k2 ?_; (case kF => k_asm); (case kN => k_asm); (case kd => decide); (case ku => decide); (case kU => k_updF); (case km => k_mem); (case kne => k_ne); (case kp => assumption); (case kq => assumption); (case kq2 => assumption); (case k1 => exact Nat.le_of_ble_eq_true rfl); (case k2 => exact Nat.le_of_ble_eq_true rfl)
  intro v5 p5 q5 tp5 tq5 h5 tk5 hv5 bp5 bq5 bqq5 F5 N5
  (try dsimp only at N5)
  obtain ⟨nm, tn, hnm, rfl⟩ := str_pick (xs := nameL) hv5 (by repeat' constructor)
  (try clear hv5)
  replace N5 := news_keep N5 (by k_mem)
  iterate 12 try ((with_reducible rename (@LT.lt Nat _ _ _ ∧ _) => z9); clear z9)
  (try clear bp4); (try clear bq4); (try clear bqq4)
  iterate 60 try ((fail_if_success (with_reducible show wpAny _ _ (call (Value.ref 156) _ _) _ _ _)); (first | (k_unfold; (try dsimp only)) | (k_end; wrow_close) | walk1 | (dsimp only; walk1) | fail "no step"))
  refine' blanks_callL ?kF K0 KX ?kN T rfl rfl ?kd ?ku ?kU ?kp ?kq ?kq2 ?_; (case kF => k_asm); (case kN => k_asm); (case kd => decide); (case ku => decide); (case kU => k_updF); (case kp => assumption); (case kq => assumption); (case kq2 => assumption)
  intro x6 tx6 p6 q6 tp6 tq6 h6 tk6 hx6 bp6 bq6 bqq6 F6 N6
  (try dsimp only at N6)
  have hl6 := (blankL_ok x6 hx6).2
  iterate 12 try ((with_reducible rename (@LT.lt Nat _ _ _ ∧ _) => z9); clear z9)
  (try clear bp5); (try clear bq5); (try clear bqq5)
  iterate 60 try ((fail_if_success (with_reducible show wpAny _ _ (call (Value.ref 156) _ _) _ _ _)); (first | (k_unfold; (try dsimp only)) | (k_end; wrow_close) | walk1 | (dsimp only; walk1) | fail "no step"))
  refine' blanks_callL ?kF K0 KX ?kN T rfl rfl ?kd ?ku ?kU ?kp ?kq ?kq2 ?_; (case kF => k_asm); (case kN => k_asm); (case kd => decide); (case ku => decide); (case kU => k_updF); (case kp => assumption); (case kq => assumption); (case kq2 => assumption)
  intro x7 tx7 p7 q7 tp7 tq7 h7 tk7 hx7 bp7 bq7 bqq7 F7 N7
  (try dsimp only at N7)
  have hl7 := (blankL_ok x7 hx7).2
  iterate 12 try ((with_reducible rename (@LT.lt Nat _ _ _ ∧ _) => z9); clear z9)
  (try clear bp6); (try clear bq6); (try clear bqq6)
  iterate 60 try ((fail_if_success (with_reducible show wpAny _ _ (call (Value.ref 142) _ _) _ _ _)); (first | (k_unfold; (try dsimp only)) | (k_end; wrow_close) | walk1 | (dsimp only; walk1) | fail "no step"))
  refine' one_callL ?kF K0 KX ?kN T rfl rfl ?kd ?ku ?kU ?km ?kne ?kp ?kq ?kq2 ?k1 ?k2 ?_; (case kF => k_asm); (case kN => k_asm); (case kd => decide); (case ku => decide); (case kU => k_updF); (case km => k_mem); (case kne => k_ne); (case kp => assumption); (case kq => assumption); (case kq2 => assumption); (case k1 => exact Nat.le_of_ble_eq_true rfl); (case k2 => exact Nat.le_of_ble_eq_true rfl)
  intro v8 p8 q8 tp8 tq8 h8 tk8 hv8 bp8 bq8 bqq8 F8 N8
  (try dsimp only at N8)
  obtain ⟨t8, qu, oo, tqu, too, rfl, hquo, hne8, N9⟩ := news_pick (tbl := tblQ) (src := src) N8 (picks_cons (PickOf.mk (by k_ne) (by k_mem) (.head _)) (picks_cons (PickOf.mk (by k_ne) (by k_mem) (.tail _ (.head _))) picks_nil)) hv8
  obtain ⟨q0, hq0, hqc, hql, hol, hqs⟩ := quote_ok hquo
  replace N9 := news_sub (b := [(t8, tupO qu tqu oo too), (src, PySem.W.listOf #[.int p8 tp8, .int q8 tq8] 0)]) N9 (List.forall_mem_cons.mpr ⟨List.mem_append_right _ (.head _), List.forall_mem_cons.mpr ⟨List.mem_append_left _ (by k_mem), List.forall_mem_nil _⟩⟩)
  iterate 12 try ((with_reducible rename (@LT.lt Nat _ _ _ ∧ _) => z9); clear z9)
  (try clear bp7); (try clear bq7); (try clear bqq7)
  (try clear N8); (try clear hv8); (try clear F1); (try clear F2); (try clear F3); (try clear F4); (try clear F5); (try clear F6); (try clear F7); (try clear N1); (try clear N2); (try clear N3); (try clear N4); (try clear N5); (try clear N6); (try clear N7)
  iterate 60 try ((fail_if_success (with_reducible show wpAny _ _ (call (Value.ref 161) _ _) _ _ _)); (first | (k_unfold; (try dsimp only)) | (k_end; wrow_close) | walk1 | (dsimp only; walk1) | fail "no step"))
  refine' value_callL ?kF K0 KX ?kN T rfl rfl ?kd ?ku ?kU ?kp ?kq ?kq2 hol ?_; (case kF => k_asm); (case kN => k_asm); (case kd => decide); (case ku => decide); (case kU => k_updF); (case kp => assumption); (case kq => assumption); (case kq2 => assumption)
  intro t10 raw meant tra tme p10 q10 tp10 tq10 ps h10 tk10 hne10 hpl hps hraw hmeant bp10 bq10 bqq10 F10 N10
  (try dsimp only at N10)
  obtain ⟨hP, hrl⟩ := picks_of hnm hx6 hx7 hq0 hpl hps hraw hmeant
  iterate 12 try ((with_reducible rename (@LT.lt Nat _ _ _ ∧ _) => z9); clear z9)
  (try clear bp8); (try clear bq8); (try clear bqq8)
  iterate 60 try ((fail_if_success (with_reducible show wpAny _ _ (call (Value.ref 135) _ _) _ _ _)); (first | (k_unfold; (try dsimp only)) | (k_end; wrow_close) | walk1 | (dsimp only; walk1) | fail "no step"))
  rename_i Dx hh1 ll1 Dk hh2 ll2 lr hh3 FF NN ll3
  refine' take_callL ?kF K0 KX ?kN T rfl rfl ?kd ?ku ?kU ?kp ?kq ?kq2 ?k1 ?k2 ?_; (case kF => k_asm); (case kN => k_asm); (case kd => decide); (case ku => decide); (case kU => k_updF); (case kp => assumption); (case kq => assumption); (case kq2 => assumption); (case k1 => decide); (case k2 => decide)
  intro f11 tf11 p11 q11 tp11 tq11 h11 tk11 bf0 bf1 bp11 bq11 bqq11 F11 N11
  (try dsimp only at N11)
  clear FF NN ll3
  have hDx : @LT.lt Nat _ src Dx := ll1.2.2
  have hDk : @LT.lt Nat _ src Dk := ll2.2.2.2
  clear ll1 ll2 bp10 bq10 bqq10
  iterate 1 try (first | (k_unfold; (try dsimp only)) | (k_end; wrow_close) | walk1 | (dsimp only; walk1) | fail "no step")
  refine kba_turn (value' := PySem.Expr.Name (PySem.Str.ofString "_") ⟨0, 0, 0, 0⟩) (fun _ => rfl) ?_
  refine kmk_slice F11 N11 (by is_list) .none (.int _ _) ?_ (by with_unfolding_all rfl) (by intro _; with_unfolding_all rfl) (Nat.le_of_ble_eq_true rfl)
  intro R12 h12 F12 N12 l12
  have hR12 : @LT.lt Nat _ src R12 := l12 (src, _) (.tail _ (.tail _ (.tail _ (.tail _ (.tail _ (.head _))))))
  clear l12
  obtain ⟨vs12, rs, hD12, hrs, hvl, N13⟩ := rows_step N12 bf0 bf1
  have hrl12 := rows_len hrs
  replace N13 := news_sub (b := [(R12, PySem.W.listOf vs12.toArray 0), (Dk, tupO _ _ _ _), (Dx, tupO _ _ _ _), (src, PySem.W.listOf #[.int p11 tp11, .int q11 tq11] 0)]) N13 (List.forall_mem_cons.mpr ⟨.head _, List.forall_mem_cons.mpr ⟨.tail _ (.head _), List.forall_mem_cons.mpr ⟨.tail _ (.tail _ (.head _)), List.forall_mem_cons.mpr ⟨.tail _ (.tail _ (.tail _ (.tail _ (.tail _ (.head _))))), List.forall_mem_nil _⟩⟩⟩⟩)
  clear hne8 hne10
  clear N12 F11 N11
  iterate 60 try ((fail_if_success (with_reducible show wpAny _ _ (call (Value.ref 142) _ _) _ _ _)); (first | (k_unfold; (try dsimp only)) | (k_end; wrow_close) | walk1 | (dsimp only; walk1) | fail "no step"))
  (with_reducible rename Fr _ _ _ _ => F13)
  refine' one_callL ?kF K0 KX ?kN T rfl rfl ?kd ?ku ?kU ?km ?kne ?kp ?kq ?kq2 ?k1 ?k2 ?_; (case kF => k_asm); (case kN => k_asm); (case kd => decide); (case ku => decide); (case kU => k_updF); (case km => k_mem); (case kne => k_ne); (case kp => assumption); (case kq => assumption); (case kq2 => assumption); (case k1 => exact Nat.le_of_ble_eq_true rfl); (case k2 => exact Nat.le_of_ble_eq_true rfl)
  intro v14 p14 q14 tp14 tq14 h14 tk14 hv14 bp14 bq14 bqq14 F14 N14
  (try dsimp only at N14)
  obtain ⟨rest, tre, hre, rfl⟩ := str_pick (xs := restL qu) hv14 (by repeat' constructor)
  obtain ⟨hrel, hrs1⟩ := restL_ok hql hqs rest hre
  replace N14 := news_sub (b := [(R12, PySem.W.listOf vs12.toArray 0), (Dk, tupO _ _ _ _), (Dx, tupO _ _ _ _), (src, PySem.W.listOf #[.int p14 tp14, .int q14 tq14] 0)]) N14 (List.forall_mem_cons.mpr ⟨.tail _ (.head _), List.forall_mem_cons.mpr ⟨.tail _ (.tail _ (.head _)), List.forall_mem_cons.mpr ⟨.tail _ (.tail _ (.tail _ (.head _))), List.forall_mem_cons.mpr ⟨.tail _ (.tail _ (.tail _ (.tail _ (.head _)))), List.forall_mem_nil _⟩⟩⟩⟩)
  obtain ⟨hk, hnd, hrok⟩ := rows_facts hrs (nameL_ok nm hnm).2.2.1 (nameL_ok nm hnm).2.2.2
  have hnl := (nameL_ok nm hnm).2.1
  have hsl : (x6 ++ PySem.Str.ofString "=" ++ x7).length ≤ 10 := sg_len hl6 hl7
  obtain ⟨e15, hR, hS⟩ := hP.read rfl hqc hk rest
  have hTl : (nm ++ (x6 ++ PySem.Str.ofString "=" ++ x7) ++ qu ++ raw ++ qu ++ rest).length ≤ 1000 := T_len hnl hsl hql hrl hrel
  iterate 12 try ((with_reducible rename (@LT.lt Nat _ _ _ ∧ _) => z9); clear z9)
  (try clear bp11); (try clear bq11); (try clear bqq11)
  (try clear hv14); (try clear N13); (try clear F12); (try clear F13); (try clear F10); (try clear N10); (try clear F8); (try clear F9); (try clear N9)
  iterate 60 try ((fail_if_success (with_reducible show wpAny _ _ (call (Value.ref 149) _ _) _ _ _)); (first | (k_unfold; (try dsimp only)) | (k_end; wrow_close) | walk1 | (dsimp only; walk1) | fail "no step"))
  (with_reducible rename Fr _ _ _ _ => F15)
  (with_reducible rename News _ _ _ _ => N15)
  refine' asked_callL (n := 8) (vs := vs12) (rs := rs) (res := some (nm, cs meant, e15)) F15 K0 KX N15 T KX T rfl rfl ?kd ?ku ?kT0 (.head _) ?kD ?klen hnd hR ?_
  case kd => decide
  case ku => decide
  case kT0 => omega
  case kD => exact hD12.mono (List.forall_mem_cons.mpr ⟨.tail _ (.head _), List.forall_mem_cons.mpr ⟨.tail _ (.tail _ (.head _)), List.forall_mem_nil _⟩⟩)
  case klen => omega
  intro v16 news16 h16 tk16 dat16 F16 N16
  replace N16 := news_swap N16
  (simp only [List.cons_append, List.nil_append] at N16)
  (try clear N15); (try clear F15)
  iterate 30 try ((fail_if_success (with_reducible show wpAny _ _ (binaryOp Operator.Add (Value.ref _) (Value.ref _)) _ _ _)); (first | (k_unfold; (try dsimp only)) | (k_end; wrow_close) | walk1 | (dsimp only; walk1) | fail "no step"))
  rename_i Dn hh4 ll4 ln hh5 FF NN ll5
  clear ll4 ll5
  refine rows_addL FF NN (.tail _ (.tail _ (.head _))) (.head _) (by simp only [List.length_cons, List.length_nil]; omega) ?_
  intro D17 h17 F17 N17 l17
  have hD17 : @LT.lt Nat _ src D17 := l17 (src, _) (.tail _ (.tail _ (.tail _ (.tail _ (.tail _ (.head _))))))
  clear l17 FF NN
  iterate 30 try ((fail_if_success (with_reducible show wpAny _ _ (compareOp CmpOp.NotEq _ _) _ _ _)); (first | (k_unfold; (try dsimp only)) | (k_end; wrow_close) | walk1 | (dsimp only; walk1) | fail "no step"))
  (with_reducible rename News _ _ _ _ => N18)
  refine ask_some (rs := rs) (vs := vs12 ++ [.ref Dn]) N18 dat16 (fun p hp => .tail _ (.tail _ (.tail _ (.tail _ (.tail _ (.tail _ (.tail _ (.tail _ (hp))))))))) (.head _) (.tail _ (.head _)) (datAll_row (hD12.mono (List.forall_mem_cons.mpr ⟨(.tail _ (.tail _ (.tail _ (.tail _ (.tail _ (.head _)))))), List.forall_mem_cons.mpr ⟨(.tail _ (.tail _ (.tail _ (.tail _ (.tail _ (.tail _ (.head _))))))), List.forall_mem_nil _⟩⟩)) (.tail _ (.tail _ (.tail _ (.head _))))) hS (ok_row hrok (name_ok hnm) (meant_ok hq0 hps hmeant)) hrs1 (caller_units _) ?_
  (with_reducible rename Fr _ _ _ _ => F18)
  replace N18 := news_sub (b := [(R12, PySem.W.listOf vs12.toArray 0), (Dk, tupO _ _ _ _), (Dx, tupO _ _ _ _), (src, PySem.W.listOf #[.int p14 tp14, .int q14 tq14] 0)]) N18 (List.forall_mem_cons.mpr ⟨(.tail _ (.tail _ (.tail _ (.tail _ (.head _))))), List.forall_mem_cons.mpr ⟨(.tail _ (.tail _ (.tail _ (.tail _ (.tail _ (.head _)))))), List.forall_mem_cons.mpr ⟨(.tail _ (.tail _ (.tail _ (.tail _ (.tail _ (.tail _ (.head _))))))), List.forall_mem_cons.mpr ⟨(.tail _ (.tail _ (.tail _ (.tail _ (.tail _ (.tail _ (.tail _ (.head _)))))))), List.forall_mem_nil _⟩⟩⟩⟩)
  (try clear N17); (try clear N16); (try clear F16); (try clear F17); (try clear dat16); (try clear hre); (try clear hR); (try clear hS); (try clear news16)
  iterate 40 try ((fail_if_success (with_reducible show wpAny _ _ (binaryOp Operator.Add (Value.ref _) (Value.ref _)) _ _ _)); (first | (k_unfold; (try dsimp only)) | (k_end; wrow_close) | walk1 | (dsimp only; walk1) | fail "no step"))
  rename_i Dm hh6 ll6 lm hh7 FF NN ll7
  clear ll6 ll7
  refine rows_addL FF NN (.tail _ (.tail _ (.head _))) (.head _) (by simp only [List.length_cons, List.length_nil]; omega) ?_
  intro R19 h19 F19 N19 l19
  have hR19 : @LT.lt Nat _ src R19 := l19 (src, _) (.tail _ (.tail _ (.tail _ (.tail _ (.tail _ (.head _))))))
  clear l19 FF NN
  iterate 40 try ((fail_if_success (with_reducible show wpAny _ _ (call (Value.ref 149) _ _) _ _ _)); (first | (k_unfold; (try dsimp only)) | (k_end; wrow_close) | walk1 | (dsimp only; walk1) | fail "no step"))
  obtain ⟨hkA, hnA⟩ := again_facts (z := PySem.Str.ofString "z") hk hnd
  (with_reducible rename Fr _ _ _ _ => F20)
  (with_reducible rename News _ _ _ _ => N20)
  refine' asked_callL (n := 8) (vs := vs12 ++ [.ref Dm]) (rs := rs ++ [(nm, PySem.Str.ofString "z")]) (res := none) F20 K0 KX N20 T KX T rfl rfl ?kd ?ku ?kT0 (.head _) ?kD ?klen hnA (hP.again rfl hqc hkA rest) ?_
  case kd => decide
  case ku => decide
  case kT0 => omega
  case kD => exact datAll_row (hD12.mono (List.forall_mem_cons.mpr ⟨(.tail _ (.tail _ (.tail _ (.tail _ (.head _))))), List.forall_mem_cons.mpr ⟨(.tail _ (.tail _ (.tail _ (.tail _ (.tail _ (.head _)))))), List.forall_mem_nil _⟩⟩)) (.tail _ (.tail _ (.head _)))
  case klen => (simp only [List.length_append, List.length_cons, List.length_nil]; omega)
  intro v21 news21 h21 tk21 dat21 F21 N21
  replace N21 := news_swap N21
  (simp only [List.cons_append, List.nil_append] at N21)
  (try clear N20); (try clear F20)
  iterate 30 try ((fail_if_success (with_reducible show wpAny _ _ (compareOp CmpOp.NotEq _ _) _ _ _)); (first | (k_unfold; (try dsimp only)) | (k_end; wrow_close) | walk1 | (dsimp only; walk1) | fail "no step"))
  (with_reducible rename News _ _ _ _ => N22)
  refine ask_none (rs := rs ++ [(nm, PySem.Str.ofString "z")]) (vs := vs12 ++ [.ref Dm]) N22 dat21 (fun p hp => .tail _ (.tail _ (.tail _ (.tail _ (.tail _ (.tail _ (.tail _ (.tail _ (hp))))))))) (.head _) (.tail _ (.head _)) (datAll_row (hD12.mono (List.forall_mem_cons.mpr ⟨(.tail _ (.tail _ (.tail _ (.tail _ (.tail _ (.head _)))))), List.forall_mem_cons.mpr ⟨(.tail _ (.tail _ (.tail _ (.tail _ (.tail _ (.tail _ (.head _))))))), List.forall_mem_nil _⟩⟩)) (.tail _ (.tail _ (.tail _ (.head _))))) (ok_row hrok (name_ok hnm) (by decide +kernel)) (caller_units _) ?_
  (with_reducible rename Fr _ _ _ _ => F22)
  replace N22 := news_sub (b := [(R12, PySem.W.listOf vs12.toArray 0), (Dk, tupO _ _ _ _), (Dx, tupO _ _ _ _), (src, PySem.W.listOf #[.int p14 tp14, .int q14 tq14] 0)]) N22 (List.forall_mem_cons.mpr ⟨(.tail _ (.tail _ (.tail _ (.tail _ (.head _))))), List.forall_mem_cons.mpr ⟨(.tail _ (.tail _ (.tail _ (.tail _ (.tail _ (.head _)))))), List.forall_mem_cons.mpr ⟨(.tail _ (.tail _ (.tail _ (.tail _ (.tail _ (.tail _ (.head _))))))), List.forall_mem_cons.mpr ⟨(.tail _ (.tail _ (.tail _ (.tail _ (.tail _ (.tail _ (.tail _ (.head _)))))))), List.forall_mem_nil _⟩⟩⟩⟩)
  (try clear N21); (try clear F21); (try clear dat21); (try clear news21); (try clear hkA); (try clear hnA)
  iterate 40 try ((fail_if_success (with_reducible show wpAny _ _ (call (Value.ref 168) _) _ _ _)); (first | (k_unfold; (try dsimp only)) | (k_end; wrow_close) | walk1 | (dsimp only; walk1) | fail "no step"))
  refine' wrong_callL ?kF K0 KX ?kN T rfl rfl ?kd ?ku ?kU ?kp ?kq ?kq2 hnl hsl (by omega) hrl ?_; (case kF => k_asm); (case kN => k_asm); (case kd => decide); (case ku => decide); (case kU => k_updF); (case kp => assumption); (case kq => assumption); (case kq2 => assumption)
  intro wr y0 y1 y2 y3 y4 y5 u0 u1 u2 u3 u4 u5 p23 q23 tp23 tq23 h23 tk23 hne23 hw bp23 bq23 bqq23 F23 N23
  (try dsimp only at N23)
  iterate 1 try (first | (k_unfold; (try dsimp only)) | (k_end; wrow_close) | walk1 | (dsimp only; walk1) | fail "no step")
  refine list_run (fun v => ∃ x t, v = .str x t ∧ WrongT nm (x6 ++ PySem.Str.ofString "=" ++ x7) qu raw x) (by k_mem) ?hP ?turn ?fin
  case hP => (simp only [List.forall_mem_cons] at hw ⊢; exact ⟨⟨_, _, rfl, hw.1⟩, ⟨_, _, rfl, hw.2.1⟩, ⟨_, _, rfl, hw.2.2.1⟩, ⟨_, _, rfl, hw.2.2.2.1⟩, ⟨_, _, rfl, hw.2.2.2.2.1⟩, ⟨_, _, rfl, hw.2.2.2.2.2.1⟩, List.forall_mem_nil _⟩)
  case turn =>
    intro v30 hv30 it30 h30 tk30 hit30 F30 N30
    obtain ⟨z30, tz30, rfl, hw30⟩ := hv30
    have hzl := hw30.len hnl hsl (by omega) hrl
    iterate 40 try ((fail_if_success (with_reducible show wpAny _ _ (call (Value.ref 149) _ _) _ _ _)); (first | (k_unfold; (try dsimp only)) | (k_end; wrow_close) | walk1 | (dsimp only; walk1) | fail "no step"))
    refine' asked_callL (n := 8) (vs := vs12) (rs := rs) (res := none) ?kF K0 KX ?kN T KX T rfl rfl ?kd ?ku ?kT0 (.tail _ (.tail _ (.head _))) ?kD ?klen hnd (hw30.none hP rfl hqc hk) ?_
    case kF => k_asm
    case kN => k_asm
    case kd => decide
    case ku => decide
    case kT0 => omega
    case kD => exact hD12.mono (List.forall_mem_cons.mpr ⟨(.tail _ (.tail _ (.tail _ (.head _)))), List.forall_mem_cons.mpr ⟨(.tail _ (.tail _ (.tail _ (.tail _ (.head _))))), List.forall_mem_nil _⟩⟩)
    case klen => omega
    intro v31 news31 h31 tk31 dat31 F31 N31
    replace N31 := news_swap N31
    (simp only [List.cons_append, List.nil_append] at N31)
    clear N30 F30
    iterate 30 try ((fail_if_success (with_reducible show wpAny _ _ (compareOp CmpOp.NotEq _ _) _ _ _)); (first | (k_unfold; (try dsimp only)) | (k_end; wrow_close) | walk1 | (dsimp only; walk1) | fail "no step"))
    (with_reducible rename News _ _ _ _ => N32)
    refine ask_none (rs := rs) (vs := vs12) N32 dat31 (fun p hp => .tail _ (.tail _ (.tail _ (.tail _ (.tail _ (.tail _ (.tail _ (hp)))))))) (.head _) (.tail _ (.tail _ (.tail _ (.head _)))) (hD12.mono (List.forall_mem_cons.mpr ⟨(.tail _ (.tail _ (.tail _ (.tail _ (.head _))))), List.forall_mem_cons.mpr ⟨(.tail _ (.tail _ (.tail _ (.tail _ (.tail _ (.head _)))))), List.forall_mem_nil _⟩⟩)) hrok (caller_units _) ?_
    (with_reducible rename Fr _ _ _ _ => F32)
    iterate 12 try ((fail_if_success (with_reducible show UnrEnd _ _ _ _ _ _ _)); (first | (k_unfold; (try dsimp only)) | (k_end; wrow_close) | walk1 | (dsimp only; walk1) | fail "no step"))
    refine UnrEnd.intro (by k_asm) N32 _ (List.forall_mem_cons.mpr ⟨(.tail _ (.head _)), List.forall_mem_cons.mpr ⟨(.tail _ (.tail _ (.head _))), List.forall_mem_cons.mpr ⟨(.tail _ (.tail _ (.tail _ (.head _)))), List.forall_mem_cons.mpr ⟨(.tail _ (.tail _ (.tail _ (.tail _ (.head _))))), List.forall_mem_cons.mpr ⟨(.tail _ (.tail _ (.tail _ (.tail _ (.tail _ (.head _)))))), List.forall_mem_cons.mpr ⟨(.tail _ (.tail _ (.tail _ (.tail _ (.tail _ (.tail _ (.head _))))))), List.forall_mem_nil _⟩⟩⟩⟩⟩⟩) (List.forall_mem_cons.mpr ⟨by k_ne, List.forall_mem_cons.mpr ⟨by k_ne, List.forall_mem_cons.mpr ⟨by k_ne, List.forall_mem_cons.mpr ⟨by k_ne, List.forall_mem_cons.mpr ⟨by k_ne, List.forall_mem_nil _⟩⟩⟩⟩⟩) ⟨fun z hz => by simp only [hz, if_false], rfl⟩
  intro m31 h31 tk31 hm31 F31 N31
  dsimp only
  iterate 3 try (first | (k_unfold; (try dsimp only)) | walk1 | (dsimp only; walk1) | fail "no step")
  dsimp only
  rw [← hR9]
  k_end; wrow_close)
end Xm
end

set_option maxRecDepth 100000 in
set_option maxHeartbeats 8000000 in
theorem PySem.Challenge.cw_xm0717_01_holds : PySem.Challenge.rw_xm0717_01.Holds := by
  exact Xm.holds
