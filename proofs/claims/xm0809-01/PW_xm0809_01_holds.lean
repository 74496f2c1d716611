import PyProof.Rows.All
import Wide.All
import OpenK.AllK
import Wide.FinOn
import PySem.Challenge.RW_xm0809_01
open PySem PySem.W PyProof.Rows PySem.Calls
set_option Elab.async false
set_option maxRecDepth 100000
set_option maxHeartbeats 8000000
set_option linter.unusedVariables false
set_option rowWalk.seconds 0
set_option compiler.extract_closed false
namespace Mine
open_top hd for PySem.Challenge.rw_xm0809_01

abbrev Prg : Program := RowW.prog (OpenRow.toRowW (OpenLaw.row PySem.Challenge.rw_xm0809_01))

abbrev Ar (dp un : Nat) (gd : Option (List Code)) (env : Env) (outer : List Env) : Around := { handled := none, depth := dp, frames := some (env :: outer), guards := gd, units := un }
structure Site (w : World) (mean : ExcName → Option Value) (mg mb : Str → Option Value) (dp un : Nat) (base h₀ : Heap) (outer : List Env) (env : Env) (L : Addr) (m : Str → Option Value) (h : Heap) (k : Nat) : Prop where
  B : ∃ A₀, Below A₀ base outer h₀
  F : Fr h₀ L h m
  X : (hd.heap_39 w.params).In h₀
  T : Top hd.view_39 (looseW hd.view_39 []) mean mg mb h₀
  hf : env.frame = some L
  hk : env.scope.kind = .function
  hd : dp + k < 500
  hu : un + 30 * k < 2000

theorem Site.room {w mean mg mb dp un base h₀ outer env L m h k} (S : Site w mean mg mb dp un base h₀ outer env L m h k) : dp < recursionLimit := by
  have := S.hd; show dp < 1000; omega

def Keeps (but : List Addr) (h h' : Heap) : Prop := ∀ b o, h.get? b = some o → b ∉ but → h'.get? b = some o

theorem Keeps.refl {but : List Addr} {h : Heap} : Keeps but h h := fun _ _ e _ => e
theorem Keeps.trans {but : List Addr} {h h' h'' : Heap} (x : Keeps but h h') (y : Keeps but h' h'') : Keeps but h h'' := fun b o e n => y b o (x b o e n) n
theorem Keeps.all {h h' : Heap} (x : Keeps [] h h') : ∀ b o, h.get? b = some o → h'.get? b = some o := fun b o e => x b o e (by simp)
theorem Keeps.of {but : List Addr} {h h' : Heap} (x : ∀ b o, h.get? b = some o → h'.get? b = some o) : Keeps but h h' := fun b o e _ => x b o e
theorem Keeps.more {but but' : List Addr} {h h' : Heap} (x : Keeps but h h') (s : ∀ a ∈ but, a ∈ but') : Keeps but' h h' := fun b o e n => x b o e fun q => n (s b q)

abbrev fsOf (l : List Env) : List Addr := l.filterMap (·.frame)

section
variable {w : World} {mean : ExcName → Option Value} {mg mb : Str → Option Value} {dp un : Nat} {gd : Option (List Code)} {base h₀ : Heap} {outer : List Env} {env : Env} {L : Addr} {m : Str → Option Value} {s : Shared} {k : Nat}
  {news : List (Addr × Obj)} {Q : Value → Shared → Prop} {E : Value → Shared → Prop}
  {name qual : Str} {params : Arguments} {body : List Stmt} {scope : Scope} {dV kV doc pm cdv ct oc : Value} {an od : Option Addr} {osl : Array (Option Value)} {f : Addr} {vals : List Value} {binds : List (Str × Value)}

theorem enter (S : Site w mean mg mb dp un base h₀ outer env L m s.heap k) (N : News h₀ L s.heap news)
    (ho : (hd.heap_39 w.params).lookup f = some ⟨oc, od, .func (fnOf name qual params body scope dV kV doc pm an cdv ct), osl⟩) (hcd : codeIn (hd.heap_39 w.params) cdv qual = true)
    (hbind : BindsTo s (fnOf name qual params body scope dV kV doc pm an cdv ct) ⟨vals, []⟩ binds) (hloc : ∀ y ∈ binds, scope.names.lookup y.1 = some .local)
    (h : ∀ g L' h₁, Fr g L' h₁ (fun y => binds.reverse.lookup y) → News g L' h₁ news → Below (Ar dp un gd env outer) base (env :: outer) g → (hd.heap_39 w.params).In g → Top hd.view_39 (looseW hd.view_39 []) mean mg mb g → Keeps (news.map (·.1)) s.heap g → g.StaysIn s.heap → h₀.StaysIn g → dp + k < 500 → un + 30 * k < 2000 →
      wpAny (model Prg w) ((Ar dp un gd env outer).deeper (envOf qual scope L' f cdv)) (execs body (envOf qual scope L' f cdv))
        (fun fl s' => Q (match fl with | .ret v => v | _ => .none) s')
        (fun e s' => wpAny (model Prg w) ((Ar dp un gd env outer).deeper (envOf qual scope L' f cdv)) (leaving (envOf qual scope L' f cdv) e) (fun _ s'' => E e s'') (fun e' s'' => E e' s'') s')
        { s with heap := h₁, toks := s.toks + binds.length })
    (hco : scope.isCoroutine = false) (hgen : scope.isGenerator = false) (hk : scope.kind = .function)
    (hcell : ∀ x ∈ scope.names, x.2 ≠ .cell) : wpAny (model Prg w) (Ar dp un gd env outer) (call (.ref f) vals []) Q E s := by
  obtain ⟨A₀, B⟩ := S.B
  have X := S.X.keeps S.F.keep
  obtain ⟨FG, BG, st, _⟩ := groundX (A := Ar dp un gd env outer) (R := fun _ _ => True) B S.F N rfl S.hf S.hk
  refine wpAny_call (codeAny_call_def (fd := fnX name qual params body scope [] dV kV doc pm an cdv ct) (body := body) (binds := binds) S.room (X _ _ ho) rfl (S.T.nolimit.keeps S.F.keep) (codeRec_of X hcd) rfl hbind hcell hloc (fun h₁ hns hk₁ => ?_) hco hgen hk)
  exact h _ s.heap.objs.size h₁ ⟨hns, fun b o e => hk₁ b o (of_hideAll _ e), Nat.le_of_eq (hideAll_size _ _)⟩
    (fun p hp => ⟨hk₁ _ _ (N p hp).1, Nat.ne_of_lt (Heap.lt_size (N p hp).1), hideAll_none _ (List.mem_map_of_mem hp)⟩) BG (S.X.keeps st) (S.T.keeps st) (fun b o e n => hideAll_get _ e n) (fun b o e => of_hideAll _ e) st S.hd S.hu

theorem enterC (S : Site w mean mg mb dp un base h₀ outer env L m s.heap k) (N : News h₀ L s.heap news)
    (ho : (hd.heap_39 w.params).lookup f = some ⟨oc, od, .func (fnOf name qual params body scope dV kV doc pm an cdv ct), osl⟩) (hcd : codeIn (hd.heap_39 w.params) cdv qual = true)
    (hbind : BindsTo s (fnOf name qual params body scope dV kV doc pm an cdv ct) ⟨vals, []⟩ binds)
    (hkind : (binds.all fun y => scope.names.lookup y.1 == some .local || scope.names.lookup y.1 == some .cell) = true) (hnd : ((cellsFrom 0 scope.names []).map (·.1)).Nodup)
    (h : ∀ g L' h₁ tk cells, Fr g L' h₁ (bindL (envOfC qual scope L' f cdv).kindOf binds fun _ => none) → News g L' h₁ (cells ++ news) →
      CellsAre (bindC (envOfC qual scope L' f cdv).kindOf binds fun _ => none) (cellsFrom (L' + 1) scope.names []) cells →
      Below (Ar dp un gd env outer) base (env :: outer) g → (hd.heap_39 w.params).In g → Top hd.view_39 (looseW hd.view_39 []) mean mg mb g → Keeps (news.map (·.1)) s.heap g → g.StaysIn s.heap → h₀.StaysIn g → dp + k < 500 → un + 30 * k < 2000 → (∀ p ∈ news, p.1 < L') →
      wpAny (model Prg w) ((Ar dp un gd env outer).deeper (envOfC qual scope L' f cdv)) (execs body (envOfC qual scope L' f cdv))
        (fun fl s' => Q (match fl with | .ret v => v | _ => .none) s')
        (fun e s' => wpAny (model Prg w) ((Ar dp un gd env outer).deeper (envOfC qual scope L' f cdv)) (leaving (envOfC qual scope L' f cdv) e) (fun _ s'' => E e s'') (fun e' s'' => E e' s'') s')
        { s with heap := h₁, toks := tk })
    (hco : scope.isCoroutine = false) (hgen : scope.isGenerator = false) (hk : scope.kind = .function) : wpAny (model Prg w) (Ar dp un gd env outer) (call (.ref f) vals []) Q E s := by
  obtain ⟨A₀, B⟩ := S.B
  have X := S.X.keeps S.F.keep
  obtain ⟨FG, BG, st, _⟩ := groundX (A := Ar dp un gd env outer) (R := fun _ _ => True) B S.F N rfl S.hf S.hk
  have hkind' := kindsX hkind
  refine wpAny_call (codeAny_call_function (fd := fnX name qual params body scope [] dV kV doc pm an cdv ct) S.room (X _ _ ho) rfl hco hgen rfl (codeRec_of X hcd) (hbind _ _ _ _ ?_))
  refine wpAny_newFunctionEnv_cells hk (hkind' _) fun env' he s' x => ?_
  subst he
  refine ⟨(S.T.nolimit.keeps S.F.keep).keeps x.toInCall.keep, codeAny_func ?_⟩
  obtain ⟨h₁, tk, rfl, _⟩ := x.done
  have hk₁ := x.toInCall.keep
  obtain ⟨cells, NC, Y⟩ := Cl.news (h₀ := s.heap) (Nat.le_refl _) fun n c hm => ⟨x.cell n c (lookup_of_mem_nodup (cellsFrom_names scope.names 0 (s.heap.objs.size + 1) [] [] rfl ▸ hnd) hm), x.above n c hm⟩
  refine h _ s.heap.objs.size h₁ tk cells ⟨x.toInCall.ns, fun b o e => hk₁ b o (of_hideAll _ e), Nat.le_of_eq (hideAll_size _ _)⟩ (fun p hp => ?_) Y BG (S.X.keeps st) (S.T.keeps st) (fun b o e n => hideAll_get _ e n) (fun b o e => of_hideAll _ e) st S.hd S.hu (fun p hp => Heap.lt_size (N p hp).1)
  rcases List.mem_append.mp hp with hp | hp
  · refine ⟨(NC p hp).1, (NC p hp).2.1, ?_⟩
    cases q : (hideAll s.heap (news.map (·.1))).get? p.1 with
    | none => rfl
    | some o => have := of_hideAll _ q; rw [(NC p hp).2.2] at this; cases this
  · exact ⟨hk₁ _ _ (N p hp).1, Nat.ne_of_lt (Heap.lt_size (N p hp).1), hideAll_none _ (List.mem_map_of_mem hp)⟩
end
example (w : World) : PySem.Challenge.rw_xm0809_01.prog = PySem.Challenge.rw_xm0809_01.prog ∧ hd.heap_39 w.params = hd.heap_39 w.params := by
  k_fill
  exact ⟨rfl, rfl⟩
local macro_rules | `(tactic| walk_at "MY enter") => `(tactic| (k_dflt (refine' enter ?S ?N ?k6 ?k7 ?k9 ?kB ?_ ?c2 ?c3 ?c4 ?c5; (case S => k_asm); (case N => first | k_asm | exact News.nil); (case k6 => k_is); (case k7 => k_is); (case k9 => exact BindsTo.of_eq rfl); (case c5 => decide); (case kB => exact locs rfl); (case c2 => exact rfl); (case c3 => exact rfl); (case c4 => exact rfl); k_whole); intro g' L' h' F' N' B' X' T' kG' gS' gH' hd' hu'; (try dsimp only); (try k_fold)))
local macro_rules | `(tactic| walk_at "eval Dict") => `(tactic| (k_here; k_dflt (refine' kdn_eval (knd := PySem.intKind _ _) ?F ?N ?b ?a ?l ?e ?n ?_; (case F => k_asm); (case N => first | k_asm | exact News.nil); (case b => exact Top.nolimit (by k_asm)); (case a => rfl); (case l => rfl); (case e => exact List.cons_ne_nil _ _); (case n => exact Nat.le_of_ble_eq_true rfl)); intro d' h' o' F' N' l1 lo' hd'; (try k_lt l1)))
example : True := by w_top off; trivial
open PySem (excClassObj) in
theorem at44 {w : World} {h : Heap} (X : (hd.heap_39 w.params).In h) : h.get? 44 = some (excClassObj "SegmentError" "SegmentError" 44 43 [.ref 31] [.ref 31, .type "Exception", .type "BaseException", .type "object"] true [] [] false none none (some (.ref 35)) none (some (.str "SegmentError" 218)) (some (.str "SegmentError" 226)) (some (.bool true)) "Exception.__new__") := X 44 _ rfl
theorem init44 {w : World} {M : Model} {h : Heap} (X : (hd.heap_39 w.params).In h) : Looks M h (typeLookup (.ref 44) "__init__") (some (.ref 28)) := looks_findIn X rfl
theorem fn28 {w : World} {h : Heap} (X : (hd.heap_39 w.params).In h) : ∃ o, h.get? 28 = some o ∧ o.cls = .type "function" := ⟨_, X 28 _ rfl, rfl⟩
section
variable {w : World} {A : Around} {E : Value → Shared → Prop} {h : Heap} {g : Array GenState} {d : Drawn} {t : Nat} {os : OsState}
theorem sub44 {M : Model} {b : Value} {r : Bool} {Q : Bool → Shared → Prop} (X : (hd.heap_39 w.params).In h) (hb : (Value.ref 44 :: [Value.ref 31, .type "Exception", .type "BaseException", .type "object"]).contains b = r) (hq : Q r ⟨h, g, d, t, os⟩) :
    wpAny M A (isSubtype (.ref 44) b) Q E ⟨h, g, d, t, os⟩ := wpAny_isSubtype_exc (at44 X) (hb ▸ hq)
theorem new44 {R : Result → Shared → Prop} {rest : List Value} (X : (hd.heap_39 w.params).In h)
    (hq : R (.ok (.ret (.ref (h.objs.size + 1)))) ⟨(h.push { cls := .type "tuple", data := .seq rest.toArray }).push
      { cls := .ref 44, data := .fields #[.ref h.objs.size, .none, .none, .none, .bool false, .none] }, g, d, t, os⟩) (hrest : rest.length ≤ sizeLine) :
    codeAny (model Prg w) A (.builtin "Exception.__new__" ⟨.ref 44 :: rest, []⟩) R ⟨h, g, d, t, os⟩ := by
  have F := PySem.F.excBase_Exception
  have hC := at44 X
  have hends := F.ends
  refine codeAny_builtinAt F.entry ?_
  unfold Builtin.«BaseException.__new__»
  refine PySem.wpAt_bind ?_
  show PySem.wpAt _ _ _ (stack >>= _) _ _ _
  refine PySem.wpAt_bind (PySem.wpAt_stack fun p below => PySem.wpAt_of_wpAny ?_)
  wp_walk
  refine PySem.wpAt_of_wpAny ?_
  rw [F.owner]
  repeat (first | with_reducible refine wpAny_madeHere_exc F.canon hC ?_ | with_reducible refine wpAny_loadPart_at hC ?_ | ((with_reducible refine' sub44 (r := true) X ?hb ?_); (case hb => exact rfl)) | ((with_reducible refine' sub44 (r := false) X ?hb ?_); (case hb => exact rfl)) | wp_step)
  show R _ _
  rw [Heap.size_push]
  exact hq

theorem call44 {rest : List Value} {Q : Value → Shared → Prop} (X : (hd.heap_39 w.params).In h) (hrest : rest.length ≤ sizeLine)
    (hq : ∀ h' e, Heap.MadeExcOf h h' e (.ref 44) rest →
      wpAny (model Prg w) (A.under (.builtin "type.__call__" ⟨.ref 44 :: rest, []⟩)) (call (.ref 28) (.ref e :: rest)) (fun r s' => r = .none ∧ Q (.ref e) s') E ⟨h', g, d, t, os⟩) :
    wpAny (model Prg w) A (call (.ref 44) rest) Q E ⟨h, g, d, t, os⟩ := by
  have F := PySem.F.excBase_Exception
  have hC := at44 X
  have f1 := tc_lookup
  have f2 := tc_bind (.ref 44)
  have hT : (⟨h, g, d, t, os⟩ : Shared).TypeIs (.ref 44) "type" := ⟨_, hC, rfl⟩
  refine wpAny_call (codeAny_of_tree ?_)
  show wpAny _ _ (callAny (.ref 44) _) _ _ _
  repeat (any_goals (first | assumption | with_reducible refine wpAny_loadPart_at hC ?_ | wp_step))
  refine ⟨rfl, ?_⟩
  refine codeAny_call_builtin_at (Code.quiet_builtin _ (by decide +kernel)) entry_typeCall (wpAny_check_type_call_sub hC ?_)
  repeat (first | with_reducible refine wpAny_loadPart_at hC ?_ | with_reducible refine wpAny_madeBy_exc hC ?_ | wp_step)
  refine codeAny_call_builtin_code (Code.quiet_builtin _ F.quiet) (wpAny_check_new_subU F (bmB := [.ref 31, .type "Exception", .type "BaseException", .type "object"]) rfl OwnTail.base hC ?_)
  refine new44 X ?_ hrest
  show wpAny _ _ _ _ _ _
  have X₁ : (hd.heap_39 w.params).In ((h.push { cls := .type "tuple", data := .seq rest.toArray }).push
      { cls := .ref 44, data := .fields #[.ref h.objs.size, .none, .none, .none, .bool false, .none] }) := X.keeps fun b o e => Heap.get?_push_of_some _ (Heap.get?_push_of_some _ e)
  have hC₁ := at44 X₁
  obtain ⟨oI, hfI, hfc⟩ := fn28 X₁
  have hget : ((h.push { cls := .type "tuple", data := .seq rest.toArray }).push
      { cls := .ref 44, data := .fields #[.ref h.objs.size, .none, .none, .none, .bool false, .none] }).get? (h.objs.size + 1) = some
      { cls := .ref 44, data := .fields #[.ref h.objs.size, .none, .none, .none, .bool false, .none] } := by heap_get
  unfold isInstance
  repeat (first | with_reducible refine wpAny_loadPart_at hget ?_ | ((with_reducible refine' sub44 (r := true) X₁ ?hb ?_); (case hb => exact rfl)) | wp_step)
  show wpAny _ _ (typeLookup (.ref 44) _) _ _ _
  refine (init44 X₁).here ?_
  refine wpAny_holding (wpAny_bind ?_)
  unfold bindSpecial
  refine wpAny_bind (wpAny_typeOf (T := "function") ⟨_, hfI, hfc⟩ ?_)
  rw [if_pos (by decide)]
  refine wpAny_pure (wpAny_bind (wpAny_mono (hq _ (h.objs.size + 1) ⟨fun b o hb => Heap.get?_push_of_some _ (Heap.get?_push_of_some _ hb), Heap.get?_none_of_le (Nat.le_succ _), h.objs.size, hget, Heap.get?_none_of_le (Nat.le_refl _), ?_⟩) (fun r s' hr => ?_) fun _ _ x => x))
  · exact Heap.get?_push_of_some _ (Heap.get?_push_at rfl rfl)
  · obtain ⟨rfl, hQ⟩ := hr
    wp_walk
    exact hQ
end
section
variable {w : World} {A : Around} {E : Value → Shared → Prop} {h : Heap} {g : Array GenState} {d : Drawn} {t : Nat} {os : OsState}
abbrev excObj (a0 : Value) : Obj := { cls := .ref 44, data := .fields #[a0, .none, .none, .none, .bool false, .none] }
theorem checkInit44 {M : Model} {e : Addr} {a0 : Value} {rest : List Value} {Q : Unit → Shared → Prop} (X : (hd.heap_39 w.params).In h) (he : h.get? e = some (excObj a0)) (hq : Q () ⟨h, g, d, t, os⟩) :
    wpAny M A (checkBuiltinCall "Exception.__init__" ⟨.ref e :: rest, []⟩) Q E ⟨h, g, d, t, os⟩ := by
  have F := PySem.F.excBase_Exception
  have hshort := F.noStar
  have hC := at44 X
  simp only [checkBuiltinCall, F.initKind, F.initSplit, F.initRow]
  repeat (first | (with_reducible refine wpAny_loadPart_at he ?_; (try dsimp only)) | with_reducible refine wpAny_loadPart_at hC ?_ | ((with_reducible refine' sub44 (r := true) X ?hb ?_); (case hb => exact rfl)) | wp_step)
  refine wpAny_onRaise ?_
  rw [show ∀ (a b : String) (n : Nat), Bind.check ⟨.positional, "*", "Exception", .self, [⟨"args", .varPos, false⟩]⟩ a b n (List.map (fun x => x.fst) ({ pos := Value.ref e :: rest } : Args).kw) = pure () from
    fun a b n => check_star_args _ _ _ _ _ _]
  exact wpAny_pure hq
theorem excInit44 {e : Addr} {t0 : Addr} {rest : List Value} {Q : Value → Shared → Prop} (X : (hd.heap_39 w.params).In h) (he : h.get? e = some (excObj (.ref t0))) (hrest : rest.length ≤ sizeLine)
    (hq : ∀ h' a1, Keeps [e] h h' → h'.get? e = some (excObj a1) → Q .none ⟨h', g, d, t, os⟩) :
    wpAny (model Prg w) A (call (.builtin "Exception.__init__") (.ref e :: rest)) Q E ⟨h, g, d, t, os⟩ := by
  have F := PySem.F.excBase_Exception
  refine wpAny_call (codeAny_call_builtin F.init.plain F.initEntry (checkInit44 X he ?_))
  wp_walk
  refine hq _ (.ref h.objs.size) (fun b o hb hn => ?_) ?_
  · rw [Heap.get?_update_other _ _ (fun q : e = b => hn (by rw [q]; exact List.mem_singleton.mpr rfl))]
    exact Heap.get?_push_of_some _ hb
  · rw [Heap.get?_update_self _ (Heap.get?_push_of_some _ he) rfl]
    rfl
end
example : True := by w_top off; trivial
section
variable {w : World} {A : Around} {E : Value → Shared → Prop} {h : Heap} {g : Array GenState} {d : Drawn} {t : Nat} {os : OsState}
theorem inst44 {h : Heap} {e : Addr} {a0 : Value} (he : h.get? e = some (excObj a0)) : PySem.W.InstAt h e (excObj a0) 44 none := ⟨he, rfl, rfl, trivial⟩
theorem refuse44 (self : Value) : refuseLoop self "__setattr__" [.ref 44, .ref 31, .type "Exception", .type "BaseException", .type "object"] = pure () := by
  rw [refuseLoop_ref, refuseLoop_ref]
  kernel_rfl
theorem setattr44 {e : Addr} {a0 v : Value} {Q : Unit → Shared → Prop} (X : (hd.heap_39 w.params).In h) (he : h.get? e = some (excObj a0))
    (hq : ∀ h' t', Keeps [e] h h' → (∃ oe, h'.get? e = some oe ∧ oe.cls = .ref 44 ∧ oe.data = .fields #[a0, .none, .none, .none, .bool false, .none]) → Q () ⟨h', g, d, t', os⟩) :
    wpAny (model Prg w) A (setAttr (.ref e) "message" v) Q E ⟨h, g, d, t, os⟩ := by
  have I := inst44 he
  have SF := PySem.F.store_object
  refine set_plain (s := ⟨h, g, d, t, os⟩) X I (by k_is) ?_
  have hc : clsIn (hd.heap_39 w.params) 44 = some { name := "SegmentError", bases := [.ref 31], mro := [.ref 44, .ref 31, .type "Exception", .type "BaseException", .type "object"], ns := 43, qualname := "SegmentError", hasDict := true, slotNames := [], subclasses := [], abstract := false, collection := none, hasDel := false } := by k_is
  have sub : Looks (model Prg w) h (isInstance (.ref e) (.type "object")) true := I.type.andThen (looks_mroIn X (by k_is))
  refine codeAny_call_builtin SF.slot.plain SF.entry (@check_slot (model Prg w) _ _ ⟨h, g, d, t + 1, os⟩ "object.__setattr__" "object" "__setattr__" (.ref e) [.str "message" t, v] [] _ SF.kind SF.split sub (SF.args (.ref e) (.str "message" t) v) ?_)
  have hm : Looks (model Prg w) h (mroOf (.ref 44)) [.ref 44, .ref 31, .type "Exception", .type "BaseException", .type "object"] := (looks_clsIn X hc).andThen .now
  rw [osa_eq, refuse_eq]
  refine wpAny_bind (wpAny_bind (I.type.here (wpAny_bind (hm.here ?_))))
  rw [refuse44]
  have ha : findIn (hd.heap_39 w.params) (.ref 44) "message" = some none := by k_is
  have L3 : Looks (model Prg w) h (Builtin.ObjectAttr.storeTaker? none) none := .now
  refine wpAny_pure (wpAny_bind (I.type.here (wpAny_bind ((looks_findIn X ha).here (wpAny_bind (L3.here ?_))))))
  have hC := at44 X
  dsimp only
  wp_walk
  have hse : e ≠ h.objs.size := Nat.ne_of_lt (Heap.lt_size he)
  have D : ((h.push ({ cls := .type "dict", data := .dict #[] } : Obj)).update e fun o => { o with dict := some h.objs.size }).get? h.objs.size = some (dictOf [] 0) :=
    (Heap.get?_update_other _ _ hse).trans (Heap.get?_push_size h rfl)
  have D' := Heap.get?_update_self (Obj.putName "message" (PyData.keyHash w.params "message") (.str "message" (t + 1)) v) D (by rw [putName_dict]; rfl)
  refine wpAny_askSetting (wpAny_pure (wpAny_bind (wpAny_mkText (wpAny_bind (wpAny_loadPart D ?_)))))
  dsimp only
  rw [aRefKeyMayBeTheName_at]
  rw [if_neg (by simp)]
  refine wpAny_updatePart (o := dictOf [] 0) D ?_
  refine wpAny_bind (wpAny_lookBehind D' (by rw [putName_dict]; exact pastItsLine_dict (by rw [sizeLine_eq]; simp [putL])) ?_)
  refine wpAny_pure (hq _ _ (fun b o hb hn => ?_) ?_)
  · have hbe : e ≠ b := fun q => hn (by rw [q]; exact List.mem_singleton.mpr rfl)
    have hbs : h.objs.size ≠ b := Nat.ne_of_gt (Heap.lt_size hb)
    rw [Heap.get?_update_other _ _ hbs, Heap.get?_update_other _ _ hbe]
    exact Heap.get?_push_of_some _ hb
  · refine ⟨{ (excObj a0) with dict := some h.objs.size }, ?_, rfl, rfl⟩
    rw [Heap.get?_update_other _ _ (Ne.symm hse)]
    exact Heap.get?_update_self _ (Heap.get?_push_of_some _ he) rfl
end
example : True := by w_top off; trivial
section
theorem metaExc : typeOf (.type "Exception") = pure (.type "type") := by kernel_rfl
section
variable {w : World} {mean : ExcName → Option Value} {mg mb : Str → Option Value} {dp un : Nat} {gd : Option (List Code)} {base h₀ g : Heap} {outer : List Env} {env : Env} {L : Addr} {m : Str → Option Value} {s : Shared} {A : Around}
  {news : List (Addr × Obj)} {E : Value → Shared → Prop}
theorem Keeps.leave {but : List Addr} {h h' : Heap} (k : Keeps but h g) (F : Fr g L h' m) : Keeps but h h' := fun b o e n => F.keep b o (k b o e n)
theorem Keeps.not {e : Addr} {h h' : Heap} (K : Keeps [e] h h') : ∀ b o, b ∉ [e] → h.get? b = some o → h'.get? b = some o := fun b o n q => K b o q n
theorem excInitK {Q : Value → Shared → Prop} {e t0 : Addr} {v : Value} (F : Fr g L s.heap m) (X : (hd.heap_39 w.params).In g) (N : News g L s.heap [(e, excObj (.ref t0))])
    (h : ∀ h' a1, Fr g L h' m → News g L h' [(e, excObj a1)] → Q .none { s with heap := h' }) :
    wpAny (model Prg w) A (call (.builtin "Exception.__init__") [.ref e, v]) Q E s := by
  have he := N (e, excObj (.ref t0)) (.head _)
  refine excInit44 (X.keeps F.keep) he.1 (by rw [sizeLine_eq]; simp) fun h' a1 k q => h h' a1 (LCg.fr_but F k.not (Ne.symm he.2.1) he.2.2) fun p hp => ?_
  rw [List.mem_singleton.mp hp]
  exact ⟨q, he.2⟩
theorem setattrK {Q : Unit → Shared → Prop} {e : Addr} {a0 v : Value} (F : Fr g L s.heap m) (X : (hd.heap_39 w.params).In g) (N : News g L s.heap [(e, excObj a0)])
    (h : ∀ h' t' oe, Fr g L h' m → News g L h' [(e, oe)] → oe.cls = .ref 44 → oe.data = .fields #[a0, .none, .none, .none, .bool false, .none] → Q () { s with heap := h', toks := t' }) :
    wpAny (model Prg w) A (setAttr (.ref e) "message" v) Q E s := by
  have he := N (e, excObj a0) (.head _)
  refine setattr44 (X.keeps F.keep) he.1 fun h' t' k ⟨oe, q, q1, q2⟩ => h h' t' oe (LCg.fr_but F k.not (Ne.symm he.2.1) he.2.2) (fun p hp => ?_) q1 q2
  rw [List.mem_singleton.mp hp]
  exact ⟨q, he.2⟩
end
local macro_rules | `(tactic| walk_at "getMethod type:Exception") => `(tactic| (k_here; refine' method_type ?F ?X ?m (by decide +kernel) ?e ?h ?_; (case F => k_asm); (case X => k_asm); (case m => exact metaExc); (case e => k_dflt k_is); (case h => k_handed)))
local macro_rules | `(tactic| walk_at "call builtin:Exception.__init__") => `(tactic| (k_here; k_dflt (refine' excInitK ?F ?X ?N ?_; (case F => k_asm); (case X => k_asm); (case N => k_asm)); intro h' a' F' N'))
local macro_rules | `(tactic| walk_at "setAttr ref") => `(tactic| (k_here; k_dflt (refine' setattrK ?F ?X ?N ?_; (case F => k_asm); (case X => k_asm); (case N => k_asm)); intro h' t' o' F' N' c' d'))
section
variable {w : World} {mean : ExcName → Option Value} {mg mb : Str → Option Value} {dp un : Nat} {gd : Option (List Code)} {base h₀ : Heap} {outer : List Env} {env : Env} {L : Addr} {m : Str → Option Value} {s : Shared}
  {news : List (Addr × Obj)} {Q : Value → Shared → Prop} {E : Value → Shared → Prop}
theorem init28 {e t : Addr} {x : Str} {tk : Tok} (S : Site w mean mg mb dp un base h₀ outer env L m s.heap 2)
    (N : News h₀ L s.heap [(e, excObj (.ref t))])
    (ret : ∀ h' tk' oe a0, Keeps [e] s.heap h' → h'.get? e = some oe → oe.cls = .ref 44 → oe.data = .fields #[a0, .none, .none, .none, .bool false, .none] → Q .none { s with heap := h', toks := tk' }) :
    wpAny (model Prg w) (Ar dp un gd env outer) (call (.ref 28) [.ref e, .str x tk]) Q E s := by
  walk_at "MY enter"
  k_steps
  (rename Fr _ _ _ _ => F9); (rename News _ _ _ _ => N9); (rename Keeps _ _ _ => K9)
  exact ret _ _ _ _ (K9.leave F9) (N9 _ (.head _)).1 (by assumption) (by assumption)
end
end
example {prog : Program} {w : World} {A : Around} {E : Value → Shared → Prop} {s : Shared} {env : Env} {Q : Flow → Shared → Prop} (h : Q .next s) : wpAny (model prog w) A (execs [] env) Q E s := by walk1; assumption
example : True := by w_top off; trivial
def NewX (h h' : Heap) (e : Addr) : Prop := (∀ b o, h.get? b = some o → h'.get? b = some o) ∧ h.get? e = none ∧ ∃ oe a0, h'.get? e = some oe ∧ oe.cls = .ref 44 ∧ oe.data = .fields #[a0, .none, .none, .none, .bool false, .none]
def Rz (w : World) (E : Value → Shared → Prop) (v : Value) (s₁ : Shared) : Prop :=
  ∃ e oe a0, v = .ref e ∧ (hd.heap_39 w.params).In s₁.heap ∧ s₁.heap.get? e = some oe ∧ oe.cls = .ref 44 ∧ oe.data = .fields #[a0, .none, .none, .none, .bool false, .none] ∧ E (.ref e) s₁
section
variable {w : World} {mean : ExcName → Option Value} {mg mb : Str → Option Value} {dp un : Nat} {gd : Option (List Code)} {base h₀ : Heap} {outer : List Env} {env : Env} {L : Addr} {m : Str → Option Value} {s : Shared} {A : Around}
  {news : List (Addr × Obj)} {E : Value → Shared → Prop}
theorem Raise44 {x : Expr} {pos : Pos} {Q : Flow → Shared → Prop} (hh : A.handled = none) (h : wpAny (model Prg w) A (eval x env) (Rz w E) E s) : wpAny (model Prg w) A (exec (.Raise (some x) none pos) env) Q E s := by
  show wpAny (model Prg w) A (do standAt pos; raiseStmt env (some (do let v ← eval x env; standAt pos; pure v)) none) Q E s
  refine wpAny_bind (wpAny_standAt ?_)
  unfold raiseStmt
  dsimp only
  refine wpAny_bind (wpAny_bind (wpAny_mono h (fun v s₁ h₁ => wpAny_bind (wpAny_standAt (wpAny_pure ?_))) fun _ _ x => x))
  obtain ⟨e, oe, a0, rfl, X, he, hc, hd, hE⟩ := h₁
  obtain ⟨c, dct, dt, sl⟩ := oe
  dsimp only at hc hd
  subst hc hd
  obtain ⟨hp, g, d, tk, os⟩ := s₁
  have hC := at44 X
  repeat (first | with_reducible refine wpAny_loadPart_at he ?_ | with_reducible refine wpAny_loadPart_at hC ?_ | ((with_reducible refine' sub44 (r := true) X ?hb ?_); (case hb => exact rfl)) | wp_step)
  exact wpAny_raiseNew_none hh hE
theorem segK {Q : Value → Shared → Prop} {x : Str} {tk : Tok} (S : Site w mean mg mb dp un base h₀ outer env L m s.heap 4)
    (h : ∀ h' tk' e, NewX s.heap h' e → Q (.ref e) { s with heap := h', toks := tk' }) :
    wpAny (model Prg w) (Ar dp un gd env outer) (call (.ref 44) [.str x tk]) Q E s := by
  obtain ⟨B, F, X, T, hf, hk, hd, hu⟩ := S
  obtain ⟨hp, gn, dw, tk0, os⟩ := s
  refine call44 (X.keeps F.keep) (by rw [sizeLine_eq]; simp) fun h' e hm => ?_
  obtain ⟨t, he, _, ht⟩ := hm.there
  have hen : h₀.get? e = none := by
    cases q : h₀.get? e with
    | none => rfl
    | some o => have := F.keep _ _ q; rw [hm.new] at this; cases this
  have F₁ := F.keeps hm.keeps
  have heL : e ≠ L := fun q => by
    have := F.ns.lt
    obtain ⟨oL, _, _, hL, _⟩ := F.ns
    rw [← q, hm.new] at hL; cases hL
  show wpAny (model Prg w) (Ar (dp + 1) (un + Code.cUnits (.builtin "type.__call__" ⟨.ref 44 :: [.str x tk], []⟩)) (pushGuards (Code.guards (.builtin "type.__call__" ⟨.ref 44 :: [.str x tk], []⟩)) gd) env outer) _ _ _ _
  refine init28 (t := t) (mean := mean) (mg := mg) (mb := mb) (base := base) (h₀ := h₀) (L := L) (m := m) ⟨B, F₁, X, T, hf, hk, by omega, by have : Code.cUnits (.builtin "type.__call__" ⟨.ref 44 :: [.str x tk], []⟩) = 1 := rfl; omega⟩ (fun p hp => by rw [List.mem_singleton.mp hp]; exact ⟨he, heL, hen⟩) fun h₂ tk' oe a0 k1 k2 k3 k4 => ⟨rfl, h h₂ tk' e ⟨fun b o q => k1 b o (hm.keeps b o q) (fun z => ?_), hm.new, oe, a0, k2, k3, k4⟩⟩
  rw [List.mem_singleton.mp z, hm.new] at q
  cases q
end
example : True := by w_top off; trivial
def Fly (hc : Heap) (l : List Env) (e : Addr) (h' : Heap) : Prop := (∃ a0, Heap.FlyingW (hideAll hc (fsOf l)) l e (.ref 44) a0 h') ∧ hc.UpToSlots h'
theorem hide_stays {h h' : Heap} {as as' : List Addr} (k : h.StaysIn h') (n : ∀ a ∈ as', a ∈ as ∨ h.get? a = none) : (hideAll h as).StaysIn (hideAll h' as') := fun b o e => by
  have e1 := of_hideAll _ e
  refine hideAll_get _ (k b o e1) fun q => ?_
  rcases n b q with z | z
  · rw [hideAll_none _ z] at e; cases e
  · rw [z] at e1; cases e1
section
variable {w : World} {mean : ExcName → Option Value} {mg mb : Str → Option Value} {dp un : Nat} {gd : Option (List Code)} {base h₀ g hc h₂ : Heap} {outer l : List Env} {env : Env} {L L' a e : Addr} {m m' : Str → Option Value} {s s' : Shared} {A : Around}
  {E : Value → Shared → Prop} {name : Str} {scope : Scope} {cd : Value} {M : Model}
theorem leave_first {Q : Unit → Shared → Prop} (x : NewX g s'.heap e) (F : Fr g L' s'.heap m') (B : Below A base l g) (K : Keeps [] hc g) (gS : g.StaysIn hc) (hA : A.frames = some l) (hf : env.frame = some L') (hk : env.scope.kind = .function)
    (hQ : ∀ h', Fly hc l e h' → Q () { s' with heap := h' }) : wpAny M (A.deeper env) (leaving env (.ref e)) Q E s' := by
  obtain ⟨x1, x2, oe, a0, he, hcl, hd⟩ := x
  have hcs : hc.StaysIn s'.heap := fun b o q => x1 b o (K.all b o q)
  have none_hc : ∀ {b}, g.get? b = none → hc.get? b = none := fun {b} q => by
    cases z : hc.get? b with
    | none => rfl
    | some o => have := K.all b o z; rw [q] at this; cases this
  have none_base : ∀ {b}, g.get? b = none → (hideAll hc (fsOf l)).get? b = none := fun {b} q => by
    cases z : (hideAll hc (fsOf l)).get? b with
    | none => rfl
    | some o => have := of_hideAll _ z; rw [none_hc q] at this; cases this
  have hl : hc.FunFrames base l := B.frames.of_keeps fun b o q _ => ⟨o, gS b o q, rfl⟩
  have hl' : hc.FunFrames (hideAll hc (fsOf l)) l := funFrames_hide hl fun env' he' b hb => List.mem_filterMap.mpr ⟨env', he', hb⟩
  have hl'' : s'.heap.FunFrames (hideAll hc (fsOf l)) l := hl'.of_keeps fun b o q _ => ⟨o, hcs b o q, rfl⟩
  have hL : g.get? L' = none := kts_self F
  have hkb : (hideAll hc (fsOf l)).StaysIn s'.heap := fun b o q => hcs b o (of_hideAll _ q)
  have hen := none_base x2
  refine wpAny_leaving_firstW (a0 := a0) (base := hideAll hc (fsOf l)) (by show A.frames.map _ = _; rw [hA]; rfl) (.cons (by rw [hk]; decide) hf F.ns (none_base hL) hl'') hf he hkb hen hd rfl rfl fun h' hLf => ?_
  obtain ⟨k1, ⟨_, _, k2⟩, k3, k4⟩ := hLf
  exact hQ h' ⟨⟨a0, k1, hen, k2, by rw [← hcl]; exact k3⟩, (Heap.UpToSlots.of_keeps hcs).trans k4⟩
theorem leave_next {Q : Unit → Shared → Prop} (x : Fly h₂ (env :: l) e s'.heap) (F : Fr g L' h₂ m') (K : Keeps [] hc g) (hA : A.frames = some l) (hf : env.frame = some L')
    (hQ : ∀ h', Fly hc l e h' → Q () { s' with heap := h' }) : wpAny M (A.deeper env) (leaving env (.ref e)) Q E s' := by
  obtain ⟨⟨a0, hfl⟩, hsm⟩ := x
  have hL : g.get? L' = none := kts_self F
  refine wpAny_leaves_onW (by show A.frames.map _ = _; rw [hA]; rfl) hf hfl fun h' x1 x2 => hQ h' ⟨⟨a0, flyingW_base (hide_stays (fun b o q => F.keep b o (K.all b o q)) fun b hb => ?_) x1⟩, ((Heap.UpToSlots.of_keeps fun b o q => F.keep b o (K.all b o q)).trans hsm).trans x2⟩
  rcases List.mem_filterMap.mp hb with ⟨env', he', hf'⟩
  rcases List.mem_cons.mp he' with rfl | he'
  · rw [hf] at hf'
    cases hf'
    right
    cases z : hc.get? L' with
    | none => rfl
    | some o => have := K.all _ o z; rw [hL] at this; cases this
  · exact .inl (List.mem_filterMap.mpr ⟨env', he', hf'⟩)
theorem segK' {Q : Value → Shared → Prop} {x : Str} {tk : Tok} {news : List (Addr × Obj)} (S : Site w mean mg mb dp un base h₀ outer env L m s.heap 4) (N : News h₀ L s.heap news)
    (h : ∀ h' tk' e, NewX h₀ h' e → Fr h₀ L h' m → News h₀ L h' news → Q (.ref e) { s with heap := h', toks := tk' }) :
    wpAny (model Prg w) (Ar dp un gd env outer) (call (.ref 44) [.str x tk]) Q E s :=
  segK S fun h' tk' e ⟨x1, x2, x3⟩ => h h' tk' e ⟨fun b o q => x1 b o (S.F.keep b o q), (by
    cases q : h₀.get? e with
    | none => rfl
    | some o => have := S.F.keep _ _ q; rw [x2] at this; cases this), x3⟩ (S.F.keeps x1) (N.grown x1)
theorem rz {v : Addr} (X : (hd.heap_39 w.params).In g) (x : NewX g s'.heap v) (h : E (.ref v) s') : Rz w E (.ref v) s' := by
  obtain ⟨x1, x2, oe, a0, he, hcl, hd⟩ := x
  exact ⟨v, oe, a0, rfl, X.keeps x1, he, hcl, hd, h⟩
end
example : True := by w_top off; trivial
theorem noteFrame_eq {env env' : Env} {x : Value} (h : env.frame = env'.frame) : noteFrame x env = noteFrame x env' := by
  unfold noteFrame PySem.frameOf
  rw [h]
def FlyA (hc : Heap) (l : List Env) (e : Addr) (h' : Heap) : Prop :=
  (∃ a0 fl, (hideAll hc (fsOf l)).StaysIn h' ∧ (hideAll hc (fsOf l)).get? e = none ∧ h'.FunFrames (hideAll hc (fsOf l)) l ∧ h'.TracedAtW (hideAll hc (fsOf l)) e (.ref 44) a0 fl) ∧ hc.UpToSlots h'
section
variable {M : Model} {A : Around} {E : Value → Shared → Prop} {s s' : Shared} {base g hc h₂ : Heap} {env : Env} {l outer : List Env} {L L' e : Addr} {m' : Str → Option Value}
theorem leave_any0 {cls a0 fl : Value} {Q : Unit → Shared → Prop} (hfr : A.frames = some (env :: outer)) (hl : s.heap.FunFrames base (env :: outer)) (hf : env.frame = some L) (ht : s.heap.TracedAtW base e cls a0 fl) (hkb : base.StaysIn s.heap) (hen : base.get? e = none)
    (h : ∀ h', Heap.LeftW base (env :: outer) e cls a0 s.heap h' → Q () { s with heap := h' }) : wpAny M A (leaving env (.ref e)) Q E s := by
  by_cases hfl : fl = rawInt L
  · subst hfl
    unfold leaving
    refine wpAny_bind (wpAny_noteFrame_againW hf ht ?_)
    exact wpAny_setFlight_noneW hkb hl ht fun h' k1 k2 k3 k4 => h h' ⟨k1, k2, k3, fun b o hb hn => ⟨o.slots, k4 b o hb hn⟩⟩
  · obtain ⟨oe, vs, T, oT, ts, he, ⟨hcls, h0⟩, hd, h1, hnT, hTe, hT, hdT, h3⟩ := ht
    subst hcls
    unfold leaving noteFrame
    simp only [hf]
    refine wpAny_bind (wpAny_bind (wpAny_field he hd h1 ?_))
    rw [if_pos (show (Value.ref T != Value.none) = true from by simp)]
    refine wpAny_bind (wpAny_field hT hdT h3 ?_)
    rw [if_neg (show ¬ ((fl == rawInt L) = true) from fun q => hfl (beq_iff_eq.mp q))]
    refine wpAny_bind (wpAny_setField hT hdT (Array.getElem?_eq_some_iff.mp h3).1 ?_)
    have other : ∀ b, b ≠ T → (s.heap.update T (Obj.mapFields (·.setIfInBounds 3 Value.none))).get? b = s.heap.get? b := fun b hb => Heap.get?_update_other _ _ (Ne.symm hb)
    have noRec : ∀ b o, s.heap.get? b = some o → (∀ vs, o.data ≠ .fields vs) → b ≠ T := fun b o hb hnf q => by
      rw [q, hT] at hb; injection hb with hb; subst hb; exact hnf ts hdT
    refine wpAny_newEntryW hfr (hl.of_keeps fun b o hb hnf => ⟨o, (other b (noRec b o hb hnf)).trans hb, rfl⟩) hf ((other e (Ne.symm hTe)).trans he)
      (fun b o hbo => (other b fun q => by rw [q, hnT] at hbo; cases hbo).trans (hkb b o hbo)) hen hd (Array.getElem?_eq_some_iff.mp h1).1 h0
      fun h' ⟨x1, x2, x3, x4⟩ => h h' ⟨x1, x2, x3, fun b o hb hnf => x4 b o ((other b (noRec b o hb hnf)).trans hb) hnf⟩
theorem leave_A {Q : Unit → Shared → Prop} (x : FlyA h₂ (env :: l) e s'.heap) (F : Fr g L' h₂ m') (K : Keeps [] hc g) (hA : A.frames = some l) (hf : env.frame = some L')
    (hQ : ∀ h', Fly hc l e h' → Q () { s' with heap := h' }) : wpAny M (A.deeper env) (leaving env (.ref e)) Q E s' := by
  obtain ⟨⟨a0, fl, y1, y2, y3, y4⟩, hsm⟩ := x
  have hL : g.get? L' = none := kts_self F
  refine leave_any0 (by show A.frames.map _ = _; rw [hA]; rfl) y3 hf y4 y1 y2 fun h' hLf => ?_
  obtain ⟨k1, ⟨_, _, k2⟩, k3, k4⟩ := hLf
  refine hQ h' ⟨⟨a0, flyingW_base (hide_stays (fun b o q => F.keep b o (K.all b o q)) fun b hb => ?_) ⟨k1, y2, k2, k3⟩⟩, ((Heap.UpToSlots.of_keeps fun b o q => F.keep b o (K.all b o q)).trans hsm).trans k4⟩
  rcases List.mem_filterMap.mp hb with ⟨env', he', hf'⟩
  rcases List.mem_cons.mp he' with rfl | he'
  · rw [hf] at hf'
    cases hf'
    right
    cases z : hc.get? L' with
    | none => rfl
    | some o => have := K.all _ o z; rw [hL] at this; cases this
  · exact .inl (List.mem_filterMap.mpr ⟨env', he', hf'⟩)
theorem passOn_A {α : Type} {what : String} {cenv : Env} {Q : α → Shared → Prop} (x : Heap.HeldW (hideAll hc (fsOf l)) l e (.ref 44) fl L s.heap) (hs : hc.UpToSlots s.heap)
    (hE : ∀ h', FlyA hc l e h' → E (.ref e) { s with heap := h' }) : wpAny M A (PySem.passOn what (.ref e) cenv : Sem α) Q E s := by
  obtain ⟨y1, y2, y3, oe, vs, T, oT, ts, he, hcls, hd, h1, hnT, hTe, hT, hdT, h3⟩ := x
  have hsz3 : 3 < ts.size := (Array.getElem?_eq_some_iff.mp h3).1
  have other : ∀ (f : Obj → Obj), ∀ b, b ≠ T → (s.heap.update T f).get? b = s.heap.get? b := fun f b hb => Heap.get?_update_other _ _ (Ne.symm hb)
  have noRec : ∀ b o, s.heap.get? b = some o → (∀ vs, o.data ≠ .fields vs) → b ≠ T := fun b o hb hnf q => by
    rw [q, hT] at hb; injection hb with hb; subst hb; exact hnf ts hdT
  unfold PySem.passOn
  refine wpAny_bind (wpAny_field he hd h1 ?_)
  rw [if_neg (by simp)]
  unfold setFlight
  refine wpAny_bind (wpAny_bind (wpAny_field he hd h1 ?_))
  rw [if_pos (show (Value.ref T != Value.none) = true from by simp)]
  refine wpAny_setField hT hdT hsz3 (wpAny_throw (hE _ ⟨⟨fl, cenv.frame.elim Value.none fun f => rawInt f, fun b o hbo => ?_, y2, y3.of_keeps fun b o hb hnf => ⟨o, (other _ b (noRec b o hb hnf)).trans hb, rfl⟩, oe, vs, T, _, _, (other _ e (Ne.symm hTe)).trans he, hcls, hd, h1, hnT, hTe, Heap.get?_update_self _ hT (Obj.isFreed_of_fields (Obj.data_mapFields hdT _)), Obj.data_mapFields hdT _, by simp [hsz3]⟩, hs.trans fun b o hb hn => ⟨o.slots, (other _ b (noRec b o hb hn)).trans hb⟩⟩))
  exact (other _ b fun q => by rw [q, hnT] at hbo; cases hbo).trans (y1 b o hbo)
end
def Made (tl : List (Addr × Obj)) (h h' : Heap) : Prop := ∀ p ∈ tl, h.get? p.1 = none ∧ h'.get? p.1 = some p.2
theorem Made.nil {h h' : Heap} : Made [] h h' := fun _ hp => nomatch hp
theorem Keeps.none {h g : Heap} (k : Keeps [] h g) {a : Addr} (e : g.get? a = none) : h.get? a = none := by
  cases q : h.get? a with
  | none => rfl
  | some o => have := k.all a o q; rw [e] at this; cases this
theorem Made.one {h g h' : Heap} {a : Addr} {o : Obj} {L : Addr} {news : List (Addr × Obj)} (k : Keeps [] h g) (N : News g L h' ((a, o) :: news)) : Made [(a, o)] h h' := fun p hp => by
  rw [List.mem_singleton.mp hp]
  exact ⟨k.none (N _ (.head _)).2.2, (N _ (.head _)).1⟩
theorem Made.led {h h' : Heap} {tl : List (Addr × Obj)} (M : Made tl h h') {h₀ : Heap} {L : Addr} {m : Str → Option Value} {news : List (Addr × Obj)} (F : Fr h₀ L h m) (N : News h₀ L h news) (k : Keeps [] h h') : News h₀ L h' (tl ++ news) := fun p hp => by
  rcases List.mem_append.mp hp with q | q
  · refine ⟨(M p q).2, fun z => ?_, ?_⟩
    · obtain ⟨oL, _, _, hL, _⟩ := F.ns
      have := (M p q).1
      rw [z, hL] at this; cases this
    · cases z : h₀.get? p.1 with
      | none => rfl
      | some o => have := F.keep _ _ z; rw [(M p q).1] at this; cases this
  · exact (N.grown k.all) p q
example : True := by w_top off; trivial
def RangeOut (s : Shared) (n : Nat) (xv : Value) (s₁ : Shared) : Prop := ∃ r t u v h tk, xv = .ref r ∧ s₁ = { s with heap := h, toks := tk } ∧ Keeps [] s.heap h ∧ IsRange h r 0 n 1 t u v
def ElKeep (s : Shared) (h : Heap) (_ : Value) (s₂ : Shared) : Prop := ∃ h' tk', s₂ = { s with heap := h', toks := tk' } ∧ Keeps [] h h'
def ElOut (s : Shared) (h : Heap) (d : Dat) (y : Value) (s₂ : Shared) : Prop := ∃ h' tk' tl, s₂ = { s with heap := h', toks := tk' } ∧ Keeps [] h h' ∧ Made tl h h' ∧ DatIn tl y d
def ElRaise (s : Shared) (h : Heap) (l : List Env) (ev : Value) (s₂ : Shared) : Prop := ∃ e h' tk', ev = .ref e ∧ s₂ = { s with heap := h', toks := tk' } ∧ Fly h l e h'
section
variable {prog : Program} {w : World} {A : Around} {E : Value → Shared → Prop} {s : Shared} {h₀ base : Heap} {L : Addr} {m : Str → Option Value} {env : Env} {outer : List Env} {news : List (Addr × Obj)}
theorem funFrames_off {base h h' : Heap} {C : Addr} (k : ∀ b o, b ≠ C → h.get? b = some o → h'.get? b = some o) : ∀ {l : List Env}, h.FunFrames base l → (∀ b ∈ l.filterMap (·.frame), b ≠ C) → h'.FunFrames base l
  | [], _, _ => trivial
  | env :: l, ⟨hk, ⟨L, o, hf, hn, ho, hd⟩, hr⟩, hc => ⟨hk, ⟨L, o, hf, hn, k L o (hc L (List.mem_filterMap.mpr ⟨env, .head _, hf⟩)) ho, hd⟩, funFrames_off k hr fun b hb => hc b (by
    obtain ⟨e', he', hf'⟩ := List.mem_filterMap.mp hb
    exact List.mem_filterMap.mpr ⟨e', .tail _ he', hf'⟩)⟩
theorem ListComp_bad {elt iter : Expr} {x : Str} {px : Pos} {scope : Scope} {cl : List (Str × Addr)} {pos : Pos} {n j : Nat} {Q : Value → Shared → Prop} (hA : A.frames = some (env :: outer)) (hh : A.handled = none) (hf : env.frame = some L)
    (F : Fr h₀ L s.heap m) (N : News h₀ L s.heap news) (hl : s.heap.FunFrames base (env :: outer)) (hj : j < n) (hn : n ≤ 1000)
    (hclos : closureFor scope env = pure cl) (hcell : ∀ y ∈ scope.names, y.2 ≠ .cell) (hkind : scope.kind = .function)
    (hnames : ∀ y ∈ scope.names, y.2 = .local → scope.names.lookup y.1 = some .local) (hx : scope.names.lookup x = some .local)
    (h : wpAny (model prog w) A (eval iter env) (RangeOut s n) E s)
    (ok : ∀ i t C oC m₂ h tk E', i < j → Keeps [] s.heap h → LCg.NsObj oC m₂ → m₂ x = some (.int (i : Int) t) → Fr h₀ L h m → News h₀ L h ((C, oC) :: news) → wpAny (model prog w) A (eval elt (compEnvC scope cl C env)) (ElKeep s h) E' { s with heap := h, toks := tk })
    (bad : ∀ t C oC m₂ h tk Q', Keeps [] s.heap h → LCg.NsObj oC m₂ → m₂ x = some (.int (j : Int) t) → Fr h₀ L h m → News h₀ L h ((C, oC) :: news) → wpAny (model prog w) A (eval elt (compEnvC scope cl C env)) Q' (ElRaise s h (env :: outer)) { s with heap := h, toks := tk })
    (exc : ∀ e h' tk', FlyA s.heap (env :: outer) e h' → E (.ref e) { s with heap := h', toks := tk' })
    (hs : ∀ x, foldedSetIterable iter env x = pure x := by intro _; rfl) :
    wpAny (model prog w) A (eval (.ListComp elt [⟨.Name x px, iter, [], 0⟩] scope pos) env) Q E s := by
  rw [eval_ListComp]
  refine wpAny_comprehension_free (use := none) rfl hs hclos hkind hnames (wpAny_mono h (fun xv s₁ h₁ => ?_) fun _ _ e => e)
  obtain ⟨r, t, u, v, hp₁, tk₁, rfl, rfl, k₁, hr⟩ := h₁
  refine wpAny_pyIter_range hr (small_one (by omega) (by omega) (by omega) (by omega)) ?_
  have hsz : Builtin.Range.rangeSize 0 (n : Int) 1 = (n : Int) := by rw [rangeSize_nat]; omega
  rw [hsz]
  dsimp only
  generalize hI : hp₁.objs.size = I
  generalize hH1 : hp₁.push { cls := .type "range_iterator", data := .fields #[rawInt 0, rawInt (n : Int), rawInt 1] } = H1
  have kH1 : ∀ b o, hp₁.get? b = some o → H1.get? b = some o := fun b o e => hH1 ▸ Heap.get?_push_of_some _ e
  have eI : H1.get? I = some { cls := .type "range_iterator", data := .fields #[rawInt 0, rawInt (n : Int), rawInt 1] } := by rw [← hH1, ← hI]; exact Heap.get?_push_size _ rfl
  have sH1 : H1.objs.size = I + 1 := by rw [← hH1, Heap.size_push, hI]
  refine wpAny_newObj_type (wpAny_newFunctionEnv hcell (by intro y hy; simp at hy) (fun h₁ hns₁ hsb₁ => ?_) hkind)
  dsimp only at hns₁ hsb₁ ⊢
  generalize hD : H1.objs.size = D at hns₁ hsb₁ ⊢
  generalize hH2 : H1.push { cls := .type "list", dict := none, data := .seq ([] : List Value).toArray } = H2 at hns₁ hsb₁ ⊢
  have kH2 : ∀ b o, H1.get? b = some o → H2.get? b = some o := fun b o e => hH2 ▸ Heap.get?_push_of_some _ e
  have eD : H2.get? D = some (LCg.lst []) := by rw [← hH2, ← hD]; exact Heap.get?_push_size _ rfl
  have sH2 : H2.objs.size = D + 1 := by rw [← hH2, Heap.size_push, hD]
  generalize hC : H2.objs.size = C at hns₁ hsb₁ ⊢
  have lI : ∀ b o, s.heap.get? b = some o → @LT.lt Nat _ b I := fun b o e => hI ▸ Heap.lt_size (k₁.all b o e)
  have hID : @LT.lt Nat _ I D := by omega
  have hDC : @LT.lt Nat _ D C := by omega
  have hDC' : D ≠ C := Nat.ne_of_lt hDC
  have hIC' : I ≠ C := Nat.ne_of_lt (Nat.lt_trans hID hDC)
  have hID' : I ≠ D := Nat.ne_of_lt hID
  have off : ∀ b o, s.heap.get? b = some o → b ≠ I ∧ b ≠ D ∧ b ≠ C := fun b o e => ⟨Nat.ne_of_lt (lI b o e), Nat.ne_of_lt (Nat.lt_trans (lI b o e) hID), Nat.ne_of_lt (Nat.lt_trans (Nat.lt_trans (lI b o e) hID) hDC)⟩
  have up₁ : ∀ b o, b ≠ C → H2.get? b = some o → h₁.get? b = some o := fun b o hb e => hsb₁.extBut b o hb (Heap.get?_push_of_some _ e)
  have st0 : Keeps [] s.heap h₁ := fun b o e _ => up₁ b o (off b o e).2.2 (kH2 b o (kH1 b o (k₁.all b o e)))
  have none₀ : ∀ {b}, s.heap.get? b = none → h₀.get? b = none := fun {b} e => by
    cases q : h₀.get? b with
    | none => rfl
    | some o => have := F.keep b o q; rw [e] at this; cases this
  have noneC : s.heap.get? C = none := by
    cases q : s.heap.get? C with
    | none => rfl
    | some o => exact absurd rfl (off C o q).2.2
  have hCL : C ≠ L := fun q => by
    obtain ⟨oL, _, _, hL, _⟩ := F.ns
    exact (off L oL hL).2.2 q.symm
  have W := LCg.range_walks (prog := prog) (w := w) (A := A) (I := I) hh 0 n
  have loop : ∀ s₃ : Shared, s₃ = { s with heap := h₁, toks := tk₁ + ([] : List (Str × Value)).length } →
      codeAny (model prog w) A (.compLoop (.ListComp elt [⟨.Name x px, iter, [], 0⟩] scope pos) 0 (.ref I) (.ref D) (compEnvC scope cl C env))
        (compPost (model prog w) A E none Q (.ref D) C) s₃ := by
    rintro s₃ rfl
    refine codeAny_compLoop_tests
      (fun k s' => ∃ h' tk i ys m', s' = { s with heap := h', toks := tk } ∧ i ≤ j ∧ k = n + 1 - i ∧ ys.length = i ∧ IsRangeIter h' I (0 + (i : Nat) * 1) ((n : Int) - (i : Nat)) 1 ∧ h'.Ns C m' ∧ h'.get? D = some (LCg.lst ys) ∧ Keeps [] s.heap h') ?_ (n + 1)
      ⟨h₁, _, 0, [], _, rfl, Nat.zero_le _, rfl, rfl, (by show h₁.get? I = some _; rw [up₁ I _ hIC' (kH2 _ _ eI)]; simp), hns₁, up₁ D _ hDC' eD, st0⟩
    rintro k s' ⟨h', tk, i, ys, m', rfl, hi, rfl, hyl, hst', hn', hD', K'⟩
    have hlt : i < n := Nat.lt_of_le_of_lt hi hj
    refine W.item i _ _ _ hlt hst' fun v h₂ tk₂ hPv hst₂ hk₂ => ?_
    obtain ⟨ti, rfl⟩ := hPv
    have keep₂ : ∀ b o, b ≠ I → h'.get? b = some o → h₂.get? b = some o := fun b o hb e => hk₂ b o (by simpa using hb) e
    refine wpAny_assign_Name (wpAny_storeName_local (lookup_relabel_local hx) (hn'.at' fun o e => keep₂ _ o (Ne.symm hIC') e) (fun h₃ hn₃ hs₃ => ?_) (by simp [compEnvC, relabel, hkind]))
    refine wpAny_tests_nil ?_
    simp only [if_true]
    have keep₃ : ∀ b o, b ≠ I → b ≠ C → h'.get? b = some o → h₃.get? b = some o := fun b o h1 h2 e => hs₃.extBut b o h2 (keep₂ b o h1 e)
    have K₃ : Keeps [] s.heap h₃ := fun b o e _ => keep₃ b o (off b o e).1 (off b o e).2.2 (K'.all b o e)
    obtain ⟨oC, heC, hoC⟩ := LCg.ns_obj hn₃
    have F₃ : Fr h₀ L h₃ m := F.keeps K₃.all
    have N₃ : News h₀ L h₃ ((C, oC) :: news) := fun p hp => by
      rcases List.mem_cons.mp hp with rfl | hp
      · exact ⟨heC, hCL, none₀ noneC⟩
      · exact (N.grown K₃.all) p hp
    have hst₃ : IsRangeIter h₃ I (0 + ((i + 1 : Nat) : Int) * 1) ((n : Int) - ((i + 1 : Nat) : Int)) 1 := by
      have z : h₂.get? I = some _ := hst₂
      exact hs₃.extBut _ _ hIC' z
    have hm₂ : (fun (y : Str) => if y = x then some (Value.int (0 + (i : Int)) ti) else m' y) x = some (Value.int (i : Int) ti) := by simp
    have hD₃ : h₃.get? D = some (LCg.lst ys) := keep₃ D _ (Ne.symm hID') hDC' hD'
    by_cases hij : i = j
    · subst hij
      refine wpAny_mono (bad ti C oC _ h₃ _ _ K₃ hoC hm₂ F₃ N₃) (fun _ _ e => e) fun ev s₄ h₄ => ?_
      obtain ⟨e, h₅, tk₅, rfl, rfl, ⟨a0, hfl⟩, hsm⟩ := h₄
      show wpAny (model prog w) A (noteFrame (.ref e) (compEnvC scope cl C env)) _ _ _
      rw [noteFrame_eq (env := compEnvC scope cl C env) (env' := env) (x := .ref e) rfl]
      refine wpAny_looks_onW hA hf hfl fun h₆ hheld hsm₆ => ?_
      have hb : (hideAll s.heap (fsOf (env :: outer))).StaysIn (hideAll h₃ (fsOf (env :: outer))) := hide_stays (fun b o q => K₃.all b o q) fun b hb => .inl hb
      have hheld' := heldW_base hb hheld
      have hnC₆ : h₆.Ns C _ := hsm₆.ns (hsm.ns hn₃)
      obtain ⟨oC6, es6, ep6, hC6, hdC6, _⟩ := id hnC₆
      refine ⟨_, hnC₆, fun h₇ hs₇ cenv _ => ?_⟩
      obtain ⟨y1, y2, y3, oe, vs, T, oT, ts, he, hcls, hd, h1, hnT, hTe, hT, hdT, h3⟩ := hheld'
      have heC' : e ≠ C := fun q => by rw [q, hC6] at he; cases he; rw [hdC6] at hd; cases hd
      have hTC' : T ≠ C := fun q => by rw [q, hC6] at hT; cases hT; rw [hdC6] at hdT; cases hdT
      have up₇ : ∀ b o, b ≠ C → h₆.get? b = some o → h₇.get? b = some o := fun b o q z => hs₇.extBut b o q z
      have heldF : Heap.HeldW (hideAll s.heap (fsOf (env :: outer))) (env :: outer) e (.ref 44) a0 L h₇ :=
        ⟨fun b o z => up₇ b o (off b o (of_hideAll _ z)).2.2 (y1 b o z), y2, funFrames_off up₇ y3 (fun b hb => by
          obtain ⟨_, o, ho, _⟩ := hl.mem hb
          exact (off b o ho).2.2), oe, vs, T, oT, ts, up₇ _ _ heC' he, hcls, hd, h1, hnT, hTe, up₇ _ _ hTC' hT, hdT, h3⟩
      refine passOn_A heldF ?_ fun h₈ hA₈ => exc e h₈ _ hA₈
      intro b o z hnf
      obtain ⟨sl, q⟩ := ((Heap.UpToSlots.of_keeps K₃.all).trans (hsm.trans hsm₆)) b o z hnf
      exact ⟨sl, up₇ b _ (off b o z).2.2 q⟩
    · have hlt' : i < j := Nat.lt_of_le_of_ne hi hij
      refine wpAny_mono (ok i ti C oC _ h₃ _ _ hlt' K₃ hoC hm₂ F₃ N₃) (fun y s₄ h₄ => ?_) fun _ _ e => e
      obtain ⟨h₅, tk₅, rfl, K₅⟩ := h₄
      refine append_at (hsz := by show ys.toArray.size ≤ sizeLine; rw [List.size_toArray, hyl, sizeLine_eq]; omega) (K₅.all _ _ hD₃) fun h₆ hs₆ hD₆ => ?_
      refine ⟨n + 1 - (i + 1), by omega, h₆, tk₅, i + 1, ys ++ [y], _, rfl, hlt', rfl, by rw [List.length_append, List.length_singleton, hyl], ?_, (hn₃.at' fun o e => K₅.all _ o e).sameBut hs₆ (Ne.symm hDC'), hD₆.trans (congrArg some (LCg.lst_snoc ys y)), fun b o e _ => hs₆.extBut _ _ (off b o e).2.1 (K₅.all b o (K₃.all b o e))⟩
      have z : h₃.get? I = some _ := hst₃
      exact hs₆.extBut _ _ hID' (K₅.all _ _ z)
  exact codeAny_compStart_list (loop _ rfl) (W.self 0 _ _ _ (by show h₁.get? I = some _; rw [up₁ I _ hIC' (kH2 _ _ eI)]; simp) (loop _ rfl))
end
example : True := by w_top off; trivial
section
variable {prog : Program} {w : World} {A : Around} {E : Value → Shared → Prop} {s : Shared} {h₀ base : Heap} {L : Addr} {m : Str → Option Value} {env : Env} {outer : List Env} {news : List (Addr × Obj)}
theorem off1_mem {D : Addr} : ∀ {l : List (Addr × Obj)}, LCg.Off1 D l → ∀ p ∈ l, p.1 ≠ D
  | [], _, _, h => nomatch h
  | q :: r, x, p, h => by
    rcases List.mem_cons.mp h with rfl | h
    · exact x.1
    · exact off1_mem x.2 p h
theorem ListComp_ok {elt iter : Expr} {x : Str} {px : Pos} {scope : Scope} {cl : List (Str × Addr)} {pos : Pos} {n : Nat} {Q : Value → Shared → Prop} (el : Nat → Dat) (hh : A.handled = none)
    (F : Fr h₀ L s.heap m) (N : News h₀ L s.heap news) (hn : n ≤ 1000)
    (hclos : closureFor scope env = pure cl) (hcell : ∀ y ∈ scope.names, y.2 ≠ .cell) (hkind : scope.kind = .function)
    (hnames : ∀ y ∈ scope.names, y.2 = .local → scope.names.lookup y.1 = some .local) (hx : scope.names.lookup x = some .local)
    (h : wpAny (model prog w) A (eval iter env) (RangeOut s n) E s)
    (ok : ∀ i t C oC m₂ h tk E', i < n → LCg.NsObj oC m₂ → m₂ x = some (.int (i : Int) t) → Fr h₀ L h m → News h₀ L h ((C, oC) :: news) →
      wpAny (model prog w) A (eval elt (compEnvC scope cl C env)) (ElOut s h (el i)) E' { s with heap := h, toks := tk })
    (fin : ∀ D h tk ys tl, Fr h₀ L h m → News h₀ L h ((D, LCg.lst ys) :: (tl ++ news)) → (∀ p ∈ tl ++ news, p.1 ≠ D) → DatAll tl ys ((List.range n).map el) → Q (.ref D) { s with heap := h, toks := tk })
    (hs : ∀ x, foldedSetIterable iter env x = pure x := by intro _; rfl) :
    wpAny (model prog w) A (eval (.ListComp elt [⟨.Name x px, iter, [], 0⟩] scope pos) env) Q E s := by
  refine LCg.ListComp_U F hclos hcell hkind hnames hx (wpAny_mono h (fun xv s₁ h₁ => ?_) fun _ _ e => e) hs
  obtain ⟨r, t, u, v, hp₁, tk₁, rfl, rfl, k₁, hr⟩ := h₁
  refine LCg.CompSrc.range (n := n) hh (F.keeps k₁.all) (N.grown k₁.all) hr (small_one (by omega) (by omega) (by omega) (by omega)) (by rw [rangeSize_nat]; omega) (by rw [sizeLine_eq]; omega) fun g => ?_
  have key : ∀ (j i : Nat) (ys : List Value) (tl : List (Addr × Obj)), i + j = n → DatAll tl ys ((List.range i).map el) →
      LCg.CompRest prog w A h₀ L m env elt x scope cl { s with heap := g, toks := tk₁ } (fun _ => True) (fun i v => ∃ t, v = .int (0 + (i : Int)) t) (LCg.FinE h₀ L m { s with heap := g, toks := tk₁ } Q) j i ys (tl ++ news) := by
    intro j
    induction j with
    | zero =>
      intro i ys tl hi hy
      obtain rfl : i = n := by omega
      refine LCg.CompRest.zero fun D h tk F' N' o1 => fin D h tk ys tl F' N' (fun p hp => ?_) hy
      exact off1_mem o1 p hp
    | succ j ih =>
      intro i ys tl hi hy
      refine LCg.CompRest.succ ?_
      intro v I oI C oC D m₂ h tk E' hv hC hx' F' N' off' ne
      obtain ⟨ti, rfl⟩ := hv
      rw [Int.zero_add] at hx'
      have N₁ : News h₀ L h ((C, oC) :: news) := fun p hp => N' p (by
        rcases List.mem_cons.mp hp with rfl | hp
        · exact .tail _ (.head _)
        · exact .tail _ (.tail _ (.tail _ (List.mem_append_right _ hp))))
      refine wpAny_mono (ok i ti C oC m₂ h tk E' (by omega) hC hx' F' N₁) (fun y s₂ hq => ?_) fun _ _ e => e
      obtain ⟨h', tk', tl', rfl, K, M, hd⟩ := hq
      have Nl := M.led F' N' K
      have there : ∀ {a : Addr} {o : Obj}, (a, o) ∈ (I, oI) :: (C, oC) :: (D, LCg.lst ys) :: (tl ++ news) → ∀ p ∈ tl', @Ne Nat p.1 a := fun {a o} hm p hp z => by
        have q := (N' _ hm).1
        have q' := (M p hp).1
        have z' : p.1 = a := z
        rw [z', q] at q'
        cases q'
      refine ⟨h', tk', (tl' ++ tl) ++ news, rfl, F'.keeps K.all, fun p hp => Nl p ?_, ?_, trivial, ih (i + 1) _ (tl' ++ tl) (by omega) ?_⟩
      · simp only [List.mem_cons, List.mem_append] at hp ⊢
        rcases hp with a | a | a | ((a | a) | a) <;> simp_all
      · refine LCg.Off3.of fun p hp => ?_
        rw [List.append_assoc] at hp
        rcases List.mem_append.mp hp with q | q
        · exact ⟨there (.head _) p q, there (.tail _ (.head _)) p q, there (.tail _ (.tail _ (.head _))) p q⟩
        · exact off'.mem p q
      · rw [List.range_succ, List.map_append]
        exact (hy.mono fun p hp => List.mem_append_right _ hp).append (DatAll.one (hd.mono fun p hp => List.mem_append_left _ hp))
  exact key n 0 [] [] (by omega) .nil
end
example : True := by w_top off; trivial
theorem slot_find : Slot "bytes" "find" "bytes.find" :=
  .of (owner := "bytes") (n := "find") (by rw [typeLookup_type, builtinLookup_eq_fast]; kernel_rfl) (by decide +kernel) (by decide +kernel) (by decide +kernel)
    (by first | exact .inl (by decide +kernel) | exact .inr (by decide +kernel)) (by rw [isSubtype_type]; kernel_rfl)
theorem type_find : typeOf (.builtin "bytes.find") = pure (.type "method_descriptor") := by show builtinType _ = _; rw [builtinType_eq_fast]; kernel_rfl
theorem entry_find : entryFor table "bytes.find" = some Builtin.«bytes.find» := entryFor_of_tree (by kernel_rfl)
theorem args_find (a b : Value) : argsOk "bytes.find" ⟨[a, b], []⟩ := by unfold argsOk; kernel_rfl
def findZ (b : Array UInt8) : Int := match (if ((b.size : Int) - 0 < (1 : Int)) then none else some ((0 : Nat), b.size) : Option (Nat × Nat)).bind (fun p => Builtin.Bytes.find? b #[0] p.1 p.2) with | some i => (i : Int) | none => -1
section
variable {prog : Program} {w : World} {A : Around} {E : Value → Shared → Prop} {s : Shared} {b : Array UInt8} {t u : Tok}
theorem self_find (id : String) : selfAndSome id "find" 1 3 ⟨[.bytes b t, .bytes #[0] u], []⟩ = pure (.bytes b t, [.bytes #[0] u]) := by rfl
theorem window_find (n : Nat) : Builtin.Bytes.window n none none = (0, (n : Int)) := by
  unfold Builtin.Bytes.window
  have : ¬ ((n : Int) < 0) := by omega
  simp [this]
theorem sargs_find : Builtin.Bytes.searchArgs .bytes "find" ⟨[.bytes b t, .bytes #[0] u], []⟩ = pure (b, #[0], if ((b.size : Int) - 0 < (1 : Int)) then none else some ((0 : Nat), b.size)) := by
  unfold Builtin.Bytes.searchArgs
  simp only [self_find, pure_bind, List.headD_cons, KBy.buffer_eq]
  show (Builtin.Bytes.bound? none >>= fun start => Builtin.Bytes.bound? none >>= fun stop => _) = _
  simp only [show Builtin.Bytes.bound? none = pure none from rfl, pure_bind]
  show (Builtin.Bytes.payload (.bytes b t) >>= fun b => _) = _
  simp only [show Builtin.Bytes.payload (.bytes b t) = pure b from rfl, pure_bind, window_find]
  rfl
theorem meets_find : Meets (Builtin.«bytes.find» ⟨[.bytes b t, .bytes #[0] u], []⟩) (fun _ R s => ∀ t' k, R (.ok (.ret (.int (findZ b) t'))) { s with toks := k }) := by
  refine .of_wp fun prog w A R s hS => ?_
  unfold Builtin.«bytes.find» Builtin.Bytes.searchM
  rw [sargs_find]
  refine wpAny_bind (wpAny_pure ?_)
  unfold findZ at hS
  dsimp only
  simp only [Bool.false_eq_true, if_false]
  generalize (if ((b.size : Int) - 0 < (1 : Int)) then none else some ((0 : Nat), b.size) : Option (Nat × Nat)) = W at hS ⊢
  cases h : (W.bind fun p => Builtin.Bytes.find? b #[0] p.1 p.2) with
  | some i =>
    rw [h] at hS
    wp_walk
    exact ⟨_, rfl, hS _ _⟩
  | none =>
    rw [h] at hS
    wp_walk
    exact ⟨_, rfl, hS _ _⟩
theorem find_K {Q : Value → Shared → Prop} (h : ∀ t' k, Q (.int (findZ b) t') { s with toks := k }) : wpAny (model prog w) A (call (.builtin "bytes.find") [.bytes b t, .bytes #[0] u]) Q E s :=
  call_meets slot_find (typeIs_bytes _ _ _) entry_find (args_find _ _) meets_find h
theorem method_find {M : Model} {pl : Sem Bool} {Q : Value × List Value → Shared → Prop} (h : Q (.builtin "bytes.find", [.bytes b t]) s) : wpAny M A (getMethod (.bytes b t) "find" pl) Q E s := by
  with_reducible exact KBd.method_of (.bytes b t) (typeIs_bytes _ _ _) slot_find type_find KBd.noRef h
end
theorem zero_at {b : Array UInt8} {i : Nat} (hi : i < b.size) : (b.extract i (i + 1) == #[0]) = ((KBw.bInts b).getD i 1 == 0) := by
  have h1 : b.extract i (i + 1) = #[b[i]] := by
    apply Array.ext
    · simp; omega
    · intro j h1 h2
      have : j = 0 := by simp at h2; exact h2
      subst this
      simp
  have h2 : (KBw.bInts b).getD i 1 = ((b[i]).toNat : Int) := by
    unfold KBw.bInts
    rw [List.getD_eq_getElem?_getD, List.getElem?_map, Array.getElem?_toList, Array.getElem?_eq_getElem hi]
    rfl
  rw [h1, h2]
  have h3 : (#[b[i]] == #[(0 : UInt8)]) = (b[i] == 0) := by simp
  rw [h3]
  rw [Bool.eq_iff_iff]
  simp only [beq_iff_eq]
  constructor
  · intro h; rw [h]; rfl
  · intro h
    have : (b[i]).toNat = 0 := by omega
    exact UInt8.toNat.inj (by rw [this]; rfl)
theorem findZ_eq {b : Array UInt8} : findZ b = match (List.range (KBw.bInts b).length).find? (fun i => (KBw.bInts b).getD i 1 == 0) with | some i => (i : Int) | none => -1 := by
  unfold findZ
  rw [KBw.ints_length]
  by_cases hz : ((b.size : Int) - 0 < (1 : Int))
  · rw [if_pos hz]
    have : b.size = 0 := by omega
    rw [this]
    rfl
  · rw [if_neg hz]
    have e : (Builtin.Bytes.find? b #[0] 0 b.size) = (List.range b.size).find? (fun i => (KBw.bInts b).getD i 1 == 0) := by
      unfold Builtin.Bytes.find?
      have e1 : b.size + 1 - (0 + (#[0] : Array UInt8).size) = b.size := by simp
      rw [e1, show ((fun x => x + 0) : Nat → Nat) = _root_.id from rfl, List.map_id]
      have cong : ∀ l : List Nat, (∀ i ∈ l, i < b.size) → l.find? (fun i => b.extract i (i + (#[0] : Array UInt8).size) == #[0]) = l.find? (fun i => (KBw.bInts b).getD i 1 == 0) := by
        intro l
        induction l with
        | nil => intro _; rfl
        | cons x r ih =>
          intro hl
          rw [List.find?_cons, List.find?_cons, show (#[0] : Array UInt8).size = 1 from rfl, zero_at (hl x (.head _))]
          have := ih fun i hi => hl i (.tail _ hi)
          rw [show (#[0] : Array UInt8).size = 1 from rfl] at this
          rw [this]
      exact cong _ fun i hi => List.mem_range.mp hi
    show (match (Builtin.Bytes.find? b #[0] 0 b.size) with | some i => (i : Int) | none => -1) = _
    rw [e]
theorem findZ_some {b : Array UInt8} {ks : List Int} {e : Nat} (hb : KBw.bInts b = ks) (he : e < ks.length) (h1 : ∀ i, i < e → ks.getD i 1 ≠ 0) (h2 : ks.getD e 1 = 0) : findZ b = e := by
  subst hb
  rw [findZ_eq, List.find?_range_eq_some.mpr ⟨by simpa using h2, by simpa using he, fun j hj => by simpa using h1 j hj⟩]
theorem findZ_none {b : Array UInt8} {ks : List Int} (hb : KBw.bInts b = ks) (h : ∀ k ∈ ks, k ≠ 0) : findZ b = -1 := by
  subst hb
  rw [findZ_eq]
  have : (List.range (KBw.bInts b).length).find? (fun i => (KBw.bInts b).getD i 1 == 0) = none := by
    rw [List.find?_eq_none]
    intro i hi
    have hi' := List.mem_range.mp hi
    have := h ((KBw.bInts b).getD i 1) (by rw [List.getD_eq_getElem?_getD, List.getElem?_eq_getElem hi']; exact List.getElem_mem _)
    simpa using this
  rw [this]
theorem look_bytes : typeLookup (.type "bytes") "__bytes__" = pure (some (.builtin "bytes.__bytes__")) := by rw [typeLookup_type, builtinLookup_eq_fast]; kernel_rfl
section
variable {prog : Program} {w : World} {A : Around} {E : Value → Shared → Prop} {s : Shared} {b : Array UInt8} {t : Tok}
theorem bytes_new {Q : Value → Shared → Prop} (hQ : Q (.bytes b t) s) : codeAny (model prog w) A (.call (.builtin "bytes.__new__") ⟨[.type "bytes", .bytes b t], []⟩) (wants Q E) s := by
  refine codeAny_of_tree ?_
  show wpAny _ A.in1 (do checkBuiltinCall "bytes.__new__" ⟨[.type "bytes", .bytes b t], []⟩; again (.builtin "bytes.__new__" ⟨[.type "bytes", .bytes b t], []⟩)) _ _ s
  refine wpAny_bind (wpAny_of_eq (F.bm_newCall _) (wpAny_pure ⟨plainId_quiet F.bm_plain _, codeAny_builtin F.bm_entry ?_⟩))
  rw [Around.under_plainId F.bm_plain _]
  unfold Builtin.«bytes.__new__»
  refine wpAny_bind (wpAny_of_eq (a := true) rfl ?_)
  refine bm_if_false rfl ?_
  refine wpAny_bind (wpAny_of_eq F.bm_sub ?_)
  refine bm_if_false rfl ?_
  refine wpAny_bind (wpAny_of_eq (F.bm_bind _) ?_)
  refine wpAny_bind (wpAny_of_eq (a := ()) rfl ?_)
  refine wpAny_bind (wpAny_of_eq (a := ()) rfl ?_)
  refine bm_if_false rfl ?_
  refine wpAny_bind (wpAny_of_eq (KBy.special_eq look_bytes) ?_)
  refine wpAny_bind (wpAny_rule ?_)
  refine wpAny_bind (wpAny_of_eq (a := .type "bytes") rfl ?_)
  refine bm_if_true rfl ?_
  exact wpAny_pure hQ
theorem bytes_same {Q : Value → Shared → Prop} (hQ : Q (.bytes b t) s) : wpAny (model prog w) A (call (.type "bytes") [.bytes b t]) Q E s := by
  refine callType_codes (Q₁ := fun obj s₁ => s₁.TypeIs obj "bytes" ∧ Q obj s₁) F.bm_called (F.bm_typeCall _) F.entry_object_init
    (bytes_new ⟨PySem.W.typeIs_bytes _ _ _, hQ⟩) fun obj s₁ h₁ => ?_
  exact ⟨h₁.1, F.args_object_init_2 obj _, object_init_meets F.bm_called.init.lookup F.bm_called.made (by decide) prog w A.in1 _ s₁ ⟨h₁.1, rfl, h₁.2⟩⟩
end
local macro_rules | `(tactic| walk_at "MY site") => `(tactic| (refine' Site.mk ⟨_, ?s1⟩ ?s2 ?s3 ?s4 ?s5 ?s6 ?s7 ?s8; (case s1 => k_asm); (case s2 => k_asm); (case s3 => k_asm); (case s4 => k_asm); (case s5 => exact rfl); (case s6 => exact rfl); (case s7 => first | omega | ((try dsimp only [Ar, Around.deeper]); omega)); (case s8 => first | omega | ((try dsimp only [Ar, Around.deeper]); omega))))
local macro_rules | `(tactic| walk_at "exec Raise some none") => `(tactic| (k_here; k_dflt (refine' Raise44 ?hh ?_; (case hh => exact rfl))))
local macro_rules | `(tactic| walk_at "call ref") => `(tactic| (k_here; (with_reducible show wpAny _ _ (call (Value.ref 44) [Value.str _ _]) _ _ _); k_dflt (refine' segK' ?S ?N ?_; (case S => walk_at "MY site"); (case N => k_asm)); intro h' tk' e' x' F' N'; (try dsimp only)))
local macro_rules | `(tactic| walk_at "Rz") => `(tactic| (k_here; k_dflt (refine' rz ?X ?x ?_; (case X => k_asm); (case x => k_asm))))
local macro_rules | `(tactic| walk_at "leaving ref") => `(tactic| (k_here; k_dflt (first
  | (refine' leave_first ?x ?F ?B ?K ?gS ?hA ?hf ?hk ?_; (case x => assumption); (case F => assumption); (case B => assumption); (case K => assumption); (case gS => assumption); (case hA => exact rfl); (case hf => exact rfl); (case hk => exact rfl))
  | (refine' leave_next ?x ?F ?K ?hA ?hf ?_; (case x => assumption); (case F => assumption); (case K => assumption); (case hA => exact rfl); (case hf => exact rfl))); intro h' x'; (try dsimp only)))
example : True := by w_top off; trivial
section
theorem rest_ind {prog : Program} {w : World} {A : Around} {E : Value → Shared → Prop} {h₀ : Heap} {env : Env} {x : Str} {body : List Stmt} {Q : Flow → Shared → Prop} {s : Shared} {I : Addr} {a : Int} {n : Nat} (P : Nat → (Str → Option Value) → List (Addr × Obj) → Prop)
    (turn : ∀ i m news t h tk, i < n → P i m news → Fr h₀ env.locals h (fun y => if y = x then some (.int (a + (i : Int)) t) else m y) → News h₀ env.locals h ((I, itR (a + ((i + 1 : Nat) : Int)) ((n : Int) - ((i + 1 : Nat) : Int))) :: news) →
      wpAny (model prog w) A (execs body env) (UnrPost h₀ env.locals { s with heap := h, toks := tk } I (itR (a + ((i + 1 : Nat) : Int)) ((n : Int) - ((i + 1 : Nat) : Int))) (P (i + 1)) Q) E { s with heap := h, toks := tk })
    (done : ∀ m news h tk, P n m news → Fr h₀ env.locals h m → News h₀ env.locals h news → Q .next { s with heap := h, toks := tk }) :
    ∀ j i m news, i + j = n → P i m news → RangeRest prog w A E h₀ env x body Q s I a n j i m news := by
  intro j
  induction j with
  | zero =>
    intro i m news hi hP
    obtain rfl : i = n := by omega
    exact RangeRest.zero fun h tk F N => done m news h tk hP F N
  | succ j ih =>
    intro i m news hi hP
    refine RangeRest.succ fun t h tk F N => ?_
    refine wpAny_mono (turn i m news t h tk (by omega) hP F N) (fun f s₂ hq => ?_) fun _ _ e => e
    have step : UnrEnd h₀ env.locals { s with heap := h, toks := tk } I (itR (a + ((i + 1 : Nat) : Int)) ((n : Int) - ((i + 1 : Nat) : Int))) (P (i + 1)) s₂ → UnrEnd h₀ env.locals { s with heap := h, toks := tk } I (itR (a + ((i + 1 : Nat) : Int)) ((n : Int) - ((i + 1 : Nat) : Int))) (RangeRest prog w A E h₀ env x body Q s I a n j (i + 1)) s₂ := by
      rintro ⟨h', tk', m', news', e1, F', N', off, hP'⟩
      exact ⟨h', tk', m', news', e1, F', N', off, ih (i + 1) m' news' (by omega) hP'⟩
    cases f with
    | ret v => exact hq
    | brk => exact hq
    | next => exact step hq
    | cont => exact step hq
theorem iter_P {prog : Program} {w : World} {A : Around} {E : Value → Shared → Prop} {h₀ : Heap} {env : Env} {x : Str} {body : List Stmt} {Q : Flow → Shared → Prop} {s : Shared} {r : Addr} {d : Int} {t₀ u₀ v₀ : Tok} {m₀ : Str → Option Value} {news₀ : List (Addr × Obj)}
    (P : Addr → Nat → (Str → Option Value) → List (Addr × Obj) → Prop) (hh : A.handled = none) (hr : IsRange s.heap r 0 d 1 t₀ u₀ v₀) (h0 : 0 ≤ d) (h1 : d ≤ 1000) (F : Fr h₀ env.locals s.heap m₀) (N : News h₀ env.locals s.heap news₀)
    (init : ∀ I : Addr, AllLt I news₀ → P I 0 m₀ news₀)
    (turn : ∀ (I : Addr) (n i : Nat) m news t h tk, AllLt I news₀ → i < n → (n : Int) = d → P I i m news → Fr h₀ env.locals h (fun y => if y = x then some (.int (0 + (i : Int)) t) else m y) → News h₀ env.locals h ((I, itR (0 + ((i + 1 : Nat) : Int)) ((n : Int) - ((i + 1 : Nat) : Int))) :: news) →
      wpAny (model prog w) A (execs body env) (UnrPost h₀ env.locals { s with heap := h, toks := tk } I (itR (0 + ((i + 1 : Nat) : Int)) ((n : Int) - ((i + 1 : Nat) : Int))) (P I (i + 1)) Q) E { s with heap := h, toks := tk })
    (done : ∀ (I : Addr) (n : Nat) m news h tk, AllLt I news₀ → (n : Int) = d → P I n m news → Fr h₀ env.locals h m → News h₀ env.locals h news → Q .next { s with heap := h, toks := tk }) :
    wpAny (model prog w) A (pyIter (.ref r)) (fun it s₂ => LoopAtV prog w A h₀ env x body Q E it s₂) E s := by
  obtain ⟨n, rfl⟩ := Int.eq_ofNat_of_zero_le h0
  refine iter_rangeUnr (n := n) hh hr (small_one (by omega) (by omega) (by omega) (by omega)) (by rw [rangeSize_nat]; omega) F N fun I hI => ?_
  exact rest_ind (P I) (fun i m news t h tk hi hP F' N' => turn I n i m news t h tk (allLt_of hI) hi rfl hP F' N') (fun m news h tk hP F' N' => done I n m news h tk (allLt_of hI) rfl hP F' N') n 0 m₀ news₀ (by omega) (init I (allLt_of hI))
def octAt (bs : List Int) (i : Nat) : Int := bs.getD i 0
def numAt (low : Bool) (bs : List Int) (p sz : Nat) : Int := ((List.range sz).map fun k => octAt bs (if low then p + sz - 1 - k else p + k)).foldl (fun a b => a * 256 + b) 0
def ordB (low : Bool) : Array UInt8 := if low then #[73, 73] else #[77, 77]
theorem retI {s : Shared} {Q : Value → Shared → Prop} {P : Heap → Prop} {x y : Int} {t : Tok} {h' : Heap} {tk' : Nat} (ret : ∀ t h' tk', P h' → Q (.int x t) { s with heap := h', toks := tk' }) (e : y = x) (p : P h') : Q (.int y t) { s with heap := h', toks := tk' } := e ▸ ret t h' tk' p
theorem oct_eq {bs : List Int} {i : Int} {j : Nat} (e : i = (j : Int)) : bs.getD i.toNat 0 = octAt bs j := by subst e; rfl
theorem add_eq {a b c d : Int} (h : a = c) (k : b = d) : a + b = c + d := by rw [h, k]
theorem mul_eq {a b c : Int} (h : a = b) : a * c = b * c := by rw [h]
theorem ordF : ordB false = #[77, 77] := rfl
theorem ordT : ordB true = #[73, 73] := rfl
def accG (low : Bool) (bs : List Int) (p sz i : Nat) : Int := ((List.range i).map fun k => octAt bs (if low then p + sz - 1 - k else p + k)).foldl (fun a b => a * 256 + b) 0
theorem accG_succ {low : Bool} {bs : List Int} {p sz i : Nat} : accG low bs p sz (i + 1) = accG low bs p sz i * 256 + octAt bs (if low then p + sz - 1 - i else p + i) := by
  unfold accG
  rw [List.range_succ, List.map_append, List.foldl_append]
  rfl
structure GnP (low : Bool) (bs : List Int) (p sz : Nat) (m₀ : Str → Option Value) (i : Nat) (m : Str → Option Value) (news : List (Addr × Obj)) : Prop where
  st : ∃ (u : Str → Option Value) (t : Tok), m = (fun (y : Str) => if y = "found" then some (.int (accG low bs p sz i) t) else if (["turn", "spot"] : List Str).contains y then u y else m₀ y) ∧ news = []
theorem GnP.start {low : Bool} {bs : List Int} {p sz : Nat} {m₀ : Str → Option Value} {t : Tok} (h : m₀ "found" = some (.int 0 t)) : GnP low bs p sz m₀ 0 m₀ [] := ⟨m₀, t, by
  funext y
  by_cases e : y = "found"
  · rw [if_pos e, e, h]; rfl
  · rw [if_neg e]
    split <;> rfl, rfl⟩
theorem GnP.next {low : Bool} {bs : List Int} {p sz i : Nat} {m₀ m' u : Str → Option Value} {v v' : Int} {t t' : Tok} {a1 a2 : Value} (hm : m' = fun (y : Str) => if y = "found" then some (.int v' t') else if y = "spot" then some a1 else if y = "turn" then some a2 else if y = "found" then some (.int v t) else if (["turn", "spot"] : List Str).contains y then u y else m₀ y)
    (hv : v' = accG low bs p sz (i + 1)) : GnP low bs p sz m₀ (i + 1) m' [] := by
  subst hv
  refine ⟨m', t', ?_, rfl⟩
  subst hm
  funext y
  by_cases e : y = "found"
  · simp only [e, if_true]
  · simp only [if_neg e]
    by_cases z : (["turn", "spot"] : List Str).contains y = true
    · simp only [if_pos z]
    · have z' := z
      simp only [List.contains_cons, List.contains_nil, Bool.or_false, Bool.or_eq_true, beq_iff_eq, not_or] at z'
      simp only [if_neg z, if_neg z'.1, if_neg z'.2]
def Stop (P : Prop) : Prop := P
theorem stop_in {P : Prop} (h : Stop P) : P := h
local macro_rules | `(tactic| k_all) => `(tactic| assumption)
local macro_rules | `(tactic| walk_at "MY sub") => `(tactic| ((repeat' (refine List.forall_mem_cons.mpr ⟨by k_mem, ?_⟩)); first | exact List.forall_mem_nil _ | (intro p hp; repeat (first | exact hp | refine List.mem_cons_of_mem _ ?_))))
local macro_rules | `(tactic| walk_at "UnrEnd") => `(tactic| (refine stop_in ?_))
local macro_rules | `(tactic| walk_at "pyIter ref") => `(tactic| (k_here; refine stop_in ?_))
local macro_rules | `(tactic| walk_at "call type:range") => `(tactic| (k_here; (rename Fr _ _ _ _ => F'); (with_unfolding_all refine range1_rows F' News.nil ?_; intro _ _ _ _ _ _ _ _ _)))
section
variable {w : World} {mean : ExcName → Option Value} {mg mb : Str → Option Value} {dp un : Nat} {gd : Option (List Code)} {base h₀ : Heap} {outer : List Env} {env : Env} {L : Addr} {m : Str → Option Value} {s : Shared}
  {news : List (Addr × Obj)} {Q : Value → Shared → Prop} {E : Value → Shared → Prop}
theorem getn_bad {B : Array UInt8} {bs : List Int} {O : Value} {pt p1 p2 : Tok} {pa sz : Int} (S : Site w mean mg mb dp un base h₀ outer env L m s.heap 6) (hB : KBw.bInts B = bs) (h0 : 0 ≤ pa) (h1 : (bs.length : Int) < pa + sz) (h2 : bs.length < 1000) (h3 : pa < 1000) (h4 : 0 ≤ sz) (h5 : sz < 100)
    (exc : ∀ h' tk' e, Fly s.heap (env :: outer) e h' → E (.ref e) { s with heap := h', toks := tk' }) :
    wpAny (model Prg w) (Ar dp un gd env outer) (call (.ref 60) [.bytes B pt, .int pa p1, .int sz p2, O]) Q E s := by
  walk_at "MY enter"
  k_steps
  exact exc _ _ _ (by assumption)
theorem getn_ok0 {B : Array UInt8} {bs : List Int} {pt p1 p2 p3 : Tok} {pa : Nat} {c : Int} {low : Bool} (S : Site w mean mg mb dp un base h₀ outer env L m s.heap 6) (hB : KBw.bInts B = bs) (hc : c = 1 ∨ c = 2 ∨ c = 4) (h1 : pa + c.toNat ≤ bs.length) (h2 : bs.length < 1000)
    (ret : ∀ t h' tk', Keeps [] s.heap h' → Q (.int (numAt low bs pa c.toNat) t) { s with heap := h', toks := tk' }) :
    wpAny (model Prg w) (Ar dp un gd env outer) (call (.ref 60) [.bytes B pt, .int (pa : Int) p1, .int c p2, .bytes (ordB low) p3]) Q E s := by
  have c0 : 0 ≤ c ∧ c ≤ 4 := by omega
  have h1' : (pa : Int) + c ≤ (bs.length : Int) := by omega
  clear hc
  walk_at "MY enter"
  k_steps
  unfold Stop
  (rename Fr _ _ _ _ => F8); (rename IsRange _ _ _ _ _ _ _ _ => R8); (rename Keeps _ _ _ => K9)
  refine iter_P (fun _ => GnP low bs pa c.toNat _) rfl R8 c0.1 (by omega) F8 News.nil (fun _ _ => GnP.start (by rfl)) ?turn ?done
  case turn =>
    rintro I n i m news t h tk l1 hi hn ⟨u, tf, rfl, rfl⟩ F N
    cases low
    all_goals first | rw [ordF] at F | rw [ordT] at F
    · k_steps
      unfold Stop
      (rename Fr _ _ _ _ => F6); (rename News _ _ _ _ => N6)
      exact UnrEnd.intro F6 N6 _ (by walk_at "MY sub") (by simp) (GnP.next rfl (by rw [accG_succ]; exact add_eq (mul_eq rfl) (oct_eq (by simp only [Bool.false_eq_true, if_false]; omega))))
    · k_steps
      unfold Stop
      (rename Fr _ _ _ _ => F6); (rename News _ _ _ _ => N6)
      exact UnrEnd.intro F6 N6 _ (by walk_at "MY sub") (by simp) (GnP.next rfl (by rw [accG_succ]; exact add_eq (mul_eq rfl) (oct_eq (by simp only [if_true]; omega))))
  case done =>
    rintro I n m news h tk l1 hn ⟨u, tf, rfl, rfl⟩ F N
    k_steps
    (rename Fr _ _ _ _ => F6)
    exact retI ret (by rw [← hn, Int.toNat_natCast]; rfl) (K9.leave F6)
theorem getn_ok {B : Array UInt8} {bs : List Int} {pt p1 p2 p3 : Tok} {pa : Int} {c : Int} {low : Bool} (S : Site w mean mg mb dp un base h₀ outer env L m s.heap 6) (N : News h₀ L s.heap news) (hB : KBw.bInts B = bs) (hc : c = 1 ∨ c = 2 ∨ c = 4) (h0 : 0 ≤ pa) (h1 : pa + c ≤ (bs.length : Int)) (h2 : bs.length < 1000)
    (ret : ∀ t h' tk', Keeps [] s.heap h' → Fr h₀ L h' m → News h₀ L h' news → Q (.int (numAt low bs pa.toNat c.toNat) t) { s with heap := h', toks := tk' }) :
    wpAny (model Prg w) (Ar dp un gd env outer) (call (.ref 60) [.bytes B pt, .int pa p1, .int c p2, .bytes (ordB low) p3]) Q E s := by
  obtain ⟨p, rfl⟩ := Int.eq_ofNat_of_zero_le h0
  exact getn_ok0 S hB hc (by omega) h2 fun t h' tk' k => by simpa using ret t h' tk' k (S.F.keeps k.all) (N.grown k.all)
end
end
example {prog : Program} {w : World} {A : Around} {E : Value → Shared → Prop} {s : Shared} {env : Env} {Q : Flow → Shared → Prop} (h : Q .next s) : wpAny (model prog w) A (execs [] env) Q E s := by walk1; assumption
example : True := by w_top off; trivial
section
def signedF (n : Int) : Int := if 2147483648 ≤ n then n - 4294967296 else n
def K7 (k : Int) : Prop := k = 1 ∨ k = 3 ∨ k = 4 ∨ k = 5 ∨ k = 7 ∨ k = 9 ∨ k = 10
def usz (k : Int) : Int := if k = 3 then 2 else if k = 4 then 4 else if k = 9 then 4 else if k = 5 then 8 else if k = 10 then 8 else 1
theorem usz1 : usz 1 = 1 := rfl
theorem usz3 : usz 3 = 2 := rfl
theorem usz4 : usz 4 = 4 := rfl
theorem usz5 : usz 5 = 8 := rfl
theorem usz7 : usz 7 = 1 := rfl
theorem usz9 : usz 9 = 4 := rfl
theorem usz10 : usz 10 = 8 := rfl
section
variable {w : World} {mean : ExcName → Option Value} {mg mb : Str → Option Value} {dp un : Nat} {gd : Option (List Code)} {base h₀ : Heap} {outer : List Env} {env : Env} {L : Addr} {m : Str → Option Value} {s : Shared}
  {news : List (Addr × Obj)} {Q : Value → Shared → Prop} {E : Value → Shared → Prop}
theorem signed_ok {n : Int} {t : Tok} (S : Site w mean mg mb dp un base h₀ outer env L m s.heap 2) (N : News h₀ L s.heap news)
    (ret : ∀ t h' tk', Keeps [] s.heap h' → Fr h₀ L h' m → News h₀ L h' news → Q (.int (signedF n) t) { s with heap := h', toks := tk' }) :
    wpAny (model Prg w) (Ar dp un gd env outer) (call (.ref 67) [.int n t]) Q E s := by
  have ret' : ∀ t h' tk', Keeps [] s.heap h' → Q (.int (signedF n) t) { s with heap := h', toks := tk' } := fun t h' tk' k => ret t h' tk' k (S.F.keeps k.all) (N.grown k.all)
  clear N
  walk_at "MY enter"
  k_steps
  all_goals (
    (rename Fr _ _ _ _ => F9); (rename Keeps _ _ _ => K9)
    refine retI ret' ?_ (K9.leave F9)
    unfold signedF
    simp only [show (2 : Int) ^ (31 : Int).toNat = 2147483648 from rfl, show (2 : Int) ^ (32 : Int).toNat = 4294967296 from rfl] at *
    split <;> omega)
theorem get_usz {prog : Program} {A : Around} {d : Addr} {o : Obj} {kvs : List (Int × Value)} {k : Int} {dflt : Value} {t : Tok} {t1 t2 t3 t4 t5 t7 t9 t10 : Tok} (N : News h₀ L s.heap news) (hp : (d, o) ∈ news) (hd : o.IsDictOf (PySem.intKind prog w) kvs) (lo : (d == sysModules) = false) (hk : K7 k) (hv : kvs = [(1, .int 1 t1), (2, .int 1 t2), (3, .int 2 t3), (4, .int 4 t4), (5, .int 8 t5), (7, .int 1 t7), (9, .int 4 t9), (10, .int 8 t10)])
    (h : ∀ t, Q (.int (usz k) t) { s with toks := s.toks + 1 }) : wpAny (model prog w) A (call (.builtin "dict.get") [.ref d, .int k t, dflt]) Q E s := by
  have z : ∃ t, valueAt kvs k = some (.int (usz k) t) := by
    subst hv
    rcases hk with rfl | rfl | rfl | rfl | rfl | rfl | rfl <;> exact ⟨_, rfl⟩
  obtain ⟨t', z⟩ := z
  exact kdg_get2 N hp hd lo (intKind_is _ _ _ _) _ z (h t')
local macro_rules | `(tactic| walk_at "call builtin:dict.get") => `(tactic| (k_here; k_dflt (refine' get_usz ?myN ?mym ?myd ?myl ?myk ?myv ?_; (case myN => k_asm); (case mym => exact .head _); (case myd => assumption); (case myl => assumption); (case myk => assumption); (case myv => rfl)); intro t'; (try dsimp only)))
theorem unit_ok {k : Int} {t : Tok} (hk : K7 k) (S : Site w mean mg mb dp un base h₀ outer env L m s.heap 2) (N : News h₀ L s.heap news)
    (ret : ∀ t h' tk', Keeps [] s.heap h' → Fr h₀ L h' m → News h₀ L h' news → Q (.int (usz k) t) { s with heap := h', toks := tk' }) :
    wpAny (model Prg w) (Ar dp un gd env outer) (call (.ref 53) [.int k t]) Q E s := by
  have ret' : ∀ t h' tk', Keeps [] s.heap h' → Q (.int (usz k) t) { s with heap := h', toks := tk' } := fun t h' tk' k => ret t h' tk' k (S.F.keeps k.all) (N.grown k.all)
  clear N
  walk_at "MY enter"
  k_steps
  (rename Fr _ _ _ _ => F9); (rename Keeps _ _ _ => K9)
  exact ret' _ _ _ (K9.leave F9)
end
end
example {prog : Program} {w : World} {A : Around} {E : Value → Shared → Prop} {s : Shared} {env : Env} {Q : Flow → Shared → Prop} (h : Q .next s) : wpAny (model prog w) A (execs [] env) Q E s := by walk1; assumption
local macro_rules | `(tactic| walk_at "call ref") => `(tactic| (k_here; (with_reducible show wpAny _ _ (call (Value.ref 67) _) _ _ _); k_dflt (refine' signed_ok ?S ?N ?_; (case S => walk_at "MY site"); (case N => k_asm)); intro t' h' tk' k' F' N'; (try k_sweep); (try dsimp only)))
local macro_rules | `(tactic| walk_at "call ref") => `(tactic| (k_here; (with_reducible show wpAny _ _ (call (Value.ref 53) _) _ _ _); k_dflt (refine' unit_ok ?k ?S ?N ?_; (case k => first | assumption | (unfold K7; omega)); (case S => walk_at "MY site"); (case N => k_asm)); intro t' h' tk' k' F' N'; (try k_sweep); (try dsimp only); (try simp only [usz1, usz3, usz4, usz5, usz7, usz9, usz10])))
local macro_rules | `(tactic| walk_at "call ref") => `(tactic| (k_here; (with_reducible show wpAny _ _ (call (Value.ref 60) _) _ _ _); k_dflt (first
  | (refine' getn_ok ?S ?N ?B ?c ?h0 ?h1 ?h2 ?_; (case S => walk_at "MY site"); (case N => k_asm); (case B => assumption); (case c => omega); (case h0 => omega); (case h1 => omega); (case h2 => omega); intro t' h' tk' k' F' N'; (try k_sweep))
  | (refine' getn_bad ?S ?B ?h0 ?h1 ?h2 ?h3 ?h4 ?h5 ?_; (case S => walk_at "MY site"); (case B => assumption); (case h0 => omega); (case h1 => omega); (case h2 => omega); (case h3 => omega); (case h4 => omega); (case h5 => omega); intro h' tk' e' x')); (try dsimp only)))
example : True := by w_top off; trivial
section
variable {w : World} {mean : ExcName → Option Value} {mg mb : Str → Option Value} {dp un : Nat} {gd : Option (List Code)} {base h₀ : Heap} {outer : List Env} {env : Env} {L : Addr} {m : Str → Option Value} {s : Shared}
  {news : List (Addr × Obj)} {Q : Value → Shared → Prop} {E : Value → Shared → Prop}
def pairD (k : Int) (x y : Int) : Dat := if k = 10 then .tuple [.int (signedF x), .int (signedF y)] else .tuple [.int x, .int y]
theorem pair_ok {B : Array UInt8} {bs : List Int} {pt p1 p2 p3 : Tok} {pa k : Int} {low : Bool} (S : Site w mean mg mb dp un base h₀ outer env L m s.heap 10) (hB : KBw.bInts B = bs) (hk : k = 5 ∨ k = 10) (h0 : 0 ≤ pa) (h1 : pa + 8 ≤ (bs.length : Int)) (h2 : bs.length < 1000)
    (ret : ∀ v h' tk' tl, Keeps [] s.heap h' → Made tl s.heap h' → DatIn tl v (pairD k (numAt low bs pa.toNat 4) (numAt low bs (pa + 4).toNat 4)) → Q v { s with heap := h', toks := tk' }) :
    wpAny (model Prg w) (Ar dp un gd env outer) (call (.ref 74) [.bytes B pt, .int pa p1, .int k p2, .bytes (ordB low) p3]) Q E s := by
  rcases hk with rfl | rfl
  all_goals walk_at "MY enter"
  all_goals k_steps
  all_goals (
    (rename Fr _ _ _ _ => F9); (rename News _ _ _ _ => N9)
    exact ret _ _ _ _ (Keeps.leave (by assumption) F9) (Made.one (by assumption) N9) (DatIn.tuple (.head _) (.cons (.int _ _) (.cons (.int _ _) .nil))))
theorem pair_okK {B : Array UInt8} {bs : List Int} {pt p1 p2 p3 : Tok} {pa k : Int} {low : Bool} (S : Site w mean mg mb dp un base h₀ outer env L m s.heap 10) (N : News h₀ L s.heap news) (hB : KBw.bInts B = bs) (hk : k = 5 ∨ k = 10) (h0 : 0 ≤ pa) (h1 : pa + 8 ≤ (bs.length : Int)) (h2 : bs.length < 1000)
    (ret : ∀ v h' tk' tl, Keeps [] s.heap h' → Fr h₀ L h' m → News h₀ L h' news → Made tl s.heap h' → DatIn tl v (pairD k (numAt low bs pa.toNat 4) (numAt low bs (pa + 4).toNat 4)) → Q v { s with heap := h', toks := tk' }) :
    wpAny (model Prg w) (Ar dp un gd env outer) (call (.ref 74) [.bytes B pt, .int pa p1, .int k p2, .bytes (ordB low) p3]) Q E s :=
  pair_ok S hB hk h0 h1 h2 fun v h' tk' tl k => ret v h' tk' tl k (S.F.keeps k.all) (N.grown k.all)
theorem pair_bad {B : Array UInt8} {bs : List Int} {pt p1 p2 p3 : Tok} {pa k : Int} {low : Bool} (S : Site w mean mg mb dp un base h₀ outer env L m s.heap 10) (hB : KBw.bInts B = bs) (h0 : 0 ≤ pa) (h1 : pa + 4 ≤ (bs.length : Int)) (h3 : (bs.length : Int) < pa + 8) (h2 : bs.length < 1000)
    (exc : ∀ h' tk' e, Fly s.heap (env :: outer) e h' → E (.ref e) { s with heap := h', toks := tk' }) :
    wpAny (model Prg w) (Ar dp un gd env outer) (call (.ref 74) [.bytes B pt, .int pa p1, .int k p2, .bytes (ordB low) p3]) Q E s := by
  walk_at "MY enter"
  k_steps
  exact exc _ _ _ (by assumption)
end
local macro_rules | `(tactic| walk_at "call ref") => `(tactic| (k_here; (with_reducible show wpAny _ _ (call (Value.ref 74) _) _ _ _); k_dflt (first
  | (refine' pair_okK ?S ?N ?B ?c ?h0 ?h1 ?h2 ?_; (case S => walk_at "MY site"); (case N => k_asm); (case B => assumption); (case c => omega); (case h0 => omega); (case h1 => omega); (case h2 => omega); intro v' h' tk' tl' k' F' N' md' r')
  | (refine' pair_bad ?S ?B ?h0 ?h1 ?h3 ?h2 ?_; (case S => walk_at "MY site"); (case B => assumption); (case h0 => omega); (case h1 => omega); (case h3 => omega); (case h2 => omega); intro h' tk' e' x')); (try dsimp only)))
example : True := by w_top off; trivial
def valD (low : Bool) (bs : List Int) (p : Nat) (k : Int) : Dat :=
  if k = 5 ∨ k = 10 then pairD k (numAt low bs p 4) (numAt low bs (p + 4) 4) else .int (if k = 9 then signedF (numAt low bs p 4) else numAt low bs p (usz k).toNat)
theorem usz_cases {k : Int} (hk : K7 k) : ((usz k = 1 ∨ usz k = 2 ∨ usz k = 4) ∧ k ≠ 5 ∧ k ≠ 10 ∧ (k = 9 → usz k = 4)) ∨ (usz k = 8 ∧ (k = 5 ∨ k = 10)) := by
  rcases hk with rfl | rfl | rfl | rfl | rfl | rfl | rfl <;> decide
theorem valD_signed {low : Bool} {bs : List Int} {p : Nat} {k : Int} {t : Tok} (h : k = 9) : DatIn [] (.int (signedF (numAt low bs p (usz k).toNat)) t) (valD low bs p k) := by
  subst h
  exact DatIn.int _ _
theorem valD_plain {low : Bool} {bs : List Int} {p : Nat} {k : Int} {t : Tok} (h5 : k ≠ 5) (h10 : k ≠ 10) (h9 : k ≠ 9) : DatIn [] (.int (numAt low bs p (usz k).toNat) t) (valD low bs p k) := by
  unfold valD
  rw [if_neg (by omega), if_neg h9]
  exact DatIn.int _ _
theorem valD_pair {low : Bool} {bs : List Int} {p : Nat} {k : Int} {tl : List (Addr × Obj)} {v : Value} (h : k = 5 ∨ k = 10) (d : DatIn tl v (pairD k (numAt low bs p 4) (numAt low bs (p + 4) 4))) : DatIn tl v (valD low bs p k) := by
  unfold valD
  rw [if_pos h]
  exact d
section
variable {w : World} {mean : ExcName → Option Value} {mg mb : Str → Option Value} {dp un : Nat} {gd : Option (List Code)} {base h₀ : Heap} {outer : List Env} {env : Env} {L : Addr} {m : Str → Option Value} {s : Shared}
  {news : List (Addr × Obj)} {Q : Value → Shared → Prop} {E : Value → Shared → Prop}
theorem value_ok {B : Array UInt8} {bs : List Int} {pt p1 p2 p3 : Tok} {pa k : Int} {low : Bool} (S : Site w mean mg mb dp un base h₀ outer env L m s.heap 14) (hB : KBw.bInts B = bs) (hk : K7 k) (h0 : 0 ≤ pa) (h1 : pa + usz k ≤ (bs.length : Int)) (h2 : bs.length < 1000)
    (ret : ∀ v h' tk' tl, Keeps [] s.heap h' → Made tl s.heap h' → DatIn tl v (valD low bs pa.toNat k) → Q v { s with heap := h', toks := tk' }) :
    wpAny (model Prg w) (Ar dp un gd env outer) (call (.ref 81) [.bytes B pt, .int pa p1, .int k p2, .bytes (ordB low) p3]) Q E s := by
  have e4 : (pa + 4).toNat = pa.toNat + 4 := by omega
  have hu := usz_cases hk
  walk_at "MY enter"
  k_steps
  all_goals (rename Fr _ _ _ _ => F9)
  all_goals first
    | (exact ret _ _ _ [] (Keeps.leave (by assumption) F9) Made.nil (valD_signed (by assumption)))
    | (exact ret _ _ _ [] (Keeps.leave (by assumption) F9) Made.nil (valD_plain (by assumption) (by assumption) (by assumption)))
    | ((rename DatIn _ _ _ => R9); (rename Made _ _ _ => M9); rw [e4] at R9; exact ret _ _ _ _ (Keeps.leave (by assumption) F9) (fun p hp => ⟨Keeps.none (Keeps.leave (by assumption) (by assumption)) (M9 p hp).1, (M9 p hp).2⟩) (valD_pair (by omega) R9))
    | trace_state
theorem value_bad {B : Array UInt8} {bs : List Int} {pt p1 p2 p3 : Tok} {pa k : Int} {low : Bool} (S : Site w mean mg mb dp un base h₀ outer env L m s.heap 14) (hB : KBw.bInts B = bs) (hk : K7 k) (h0 : 0 ≤ pa) (h1 : pa + usz k = (bs.length : Int) + 1) (h2 : bs.length < 500)
    (exc : ∀ h' tk' e, Fly s.heap (env :: outer) e h' → E (.ref e) { s with heap := h', toks := tk' }) :
    wpAny (model Prg w) (Ar dp un gd env outer) (call (.ref 81) [.bytes B pt, .int pa p1, .int k p2, .bytes (ordB low) p3]) Q E s := by
  have hu := usz_cases hk
  walk_at "MY enter"
  k_steps
  all_goals exact exc _ _ _ (by assumption)
end
example : True := by w_top off; trivial
section
variable {w : World} {mean : ExcName → Option Value} {mg mb : Str → Option Value} {dp un : Nat} {gd : Option (List Code)} {base h₀ : Heap} {outer : List Env} {env : Env} {L : Addr} {m : Str → Option Value} {s : Shared}
  {news : List (Addr × Obj)} {Q : Value → Shared → Prop} {E : Value → Shared → Prop}
theorem value_okK {B : Array UInt8} {bs : List Int} {pt p1 p2 p3 : Tok} {pa k : Int} {low : Bool} (S : Site w mean mg mb dp un base h₀ outer env L m s.heap 14) (N : News h₀ L s.heap news) (hB : KBw.bInts B = bs) (hk : K7 k) (h0 : 0 ≤ pa) (h1 : pa + usz k ≤ (bs.length : Int)) (h2 : bs.length < 1000)
    (ret : ∀ v h' tk' tl, Keeps [] s.heap h' → Fr h₀ L h' m → News h₀ L h' news → Made tl s.heap h' → DatIn tl v (valD low bs pa.toNat k) → Q v { s with heap := h', toks := tk' }) :
    wpAny (model Prg w) (Ar dp un gd env outer) (call (.ref 81) [.bytes B pt, .int pa p1, .int k p2, .bytes (ordB low) p3]) Q E s :=
  value_ok S hB hk h0 h1 h2 fun v h' tk' tl k => ret v h' tk' tl k (S.F.keeps k.all) (N.grown k.all)
end
local macro_rules | `(tactic| walk_at "MY fact") => `(tactic| omega)
local macro_rules | `(tactic| walk_at "MY enterC") => `(tactic| (k_dflt (refine' enterC ?S ?N ?k6 ?k7 ?k9 ?kB ?kD ?_ ?c2 ?c3 ?c4; (case S => k_asm); (case N => first | k_asm | exact News.nil); (case k6 => k_is); (case k7 => k_is); (case k9 => exact BindsTo.of_eq rfl); (case kB => exact rfl); (case kD => decide +kernel); (case c2 => exact rfl); (case c3 => exact rfl); (case c4 => exact rfl); k_whole); intro g' L' h' tk' cells' F' N' Y' B' X' T' kG' gS' gH' hd' hu' l1; (try k_lt l1); k_cells Y'; (try simp only [List.cons_append, List.nil_append, List.append_nil] at N'); (try dsimp only); (try k_fold)))
local macro_rules | `(tactic| walk_at "eval ListComp") => `(tactic| (k_here; (with_reducible show wpAny _ _ (eval (Expr.ListComp _ _ _ _) _) _ _ _); refine stop_in ?_))
local macro_rules | `(tactic| walk_at "exec Assign cons ListComp") => `(tactic| (k_here; refine stop_in ?_))
local macro_rules | `(tactic| walk_at "call ref") => `(tactic| (k_here; (with_reducible show wpAny _ _ (call (Value.ref 81) _) _ _ _); k_dflt (first
  | (refine' value_okK ?S ?N ?B ?c ?h0 ?h1 ?h2 ?_; (case S => walk_at "MY site"); (case N => k_asm); (case B => assumption); (case c => assumption); (case h0 => walk_at "MY fact"); (case h1 => walk_at "MY fact"); (case h2 => walk_at "MY fact"); intro v' h' tk' tl' k' F' N' md' r')
  | (refine' value_bad ?S ?B ?c ?h0 ?h1 ?h2 ?_; (case S => walk_at "MY site"); (case B => assumption); (case c => assumption); (case h0 => walk_at "MY fact"); (case h1 => walk_at "MY fact"); (case h2 => walk_at "MY fact"); intro h' tk' e' x')); (try dsimp only)))
local macro_rules | `(tactic| walk_at "leaving ref") => `(tactic| (k_here; k_dflt (refine' leave_A ?x ?F ?K ?hA ?hf ?_; (case x => assumption); (case F => assumption); (case K => assumption); (case hA => exact rfl); (case hf => exact rfl)); intro h' x'; (try dsimp only)))
example : True := by w_top off; trivial
theorem Fly.back {h h₁ h' : Heap} {l : List Env} {e : Addr} (x : Fly h₁ l e h') (k : Keeps [] h h₁) : Fly h l e h' := by
  obtain ⟨⟨a0, hfl⟩, hsm⟩ := x
  exact ⟨⟨a0, flyingW_base (hide_stays k.all fun b hb => .inl hb) hfl⟩, (Heap.UpToSlots.of_keeps k.all).trans hsm⟩
theorem mul_room {i n : Nat} {u : Int} (hi : i < n) (hu : 0 ≤ u) : 0 ≤ (i : Int) * u ∧ (i : Int) * u + u ≤ (n : Int) * u := by
  refine ⟨Int.mul_nonneg (by omega) hu, ?_⟩
  have : ((i : Int) + 1) * u ≤ (n : Int) * u := Int.mul_le_mul_of_nonneg_right (by omega) hu
  rw [Int.add_mul, Int.one_mul] at this
  exact this
section
variable {w : World} {mean : ExcName → Option Value} {mg mb : Str → Option Value} {dp un : Nat} {gd : Option (List Code)} {base h₀ : Heap} {outer : List Env} {env : Env} {L : Addr} {m : Str → Option Value} {s : Shared}
  {news : List (Addr × Obj)} {Q : Value → Shared → Prop} {E : Value → Shared → Prop}
theorem values_ok {B : Array UInt8} {bs : List Int} {pt p1 p2 p3 p4 : Tok} {pa k : Int} {n : Nat} {low : Bool} (S : Site w mean mg mb dp un base h₀ outer env L m s.heap 20) (hB : KBw.bInts B = bs) (hk : K7 k) (h0 : 0 ≤ pa) (h1 : pa + n * usz k ≤ (bs.length : Int)) (h2 : bs.length < 500) (hn : n ≤ 100)
    (ret : ∀ v h' tk' tl, Keeps [] s.heap h' → Made tl s.heap h' → DatIn tl v (.list ((List.range n).map fun (i : Nat) => valD low bs (pa + (i : Int) * usz k).toNat k)) → Q v { s with heap := h', toks := tk' }) :
    wpAny (model Prg w) (Ar dp un gd env outer) (call (.ref 86) [.bytes B pt, .int pa p1, .int k p2, .int (n : Int) p3, .bytes (ordB low) p4]) Q E s := by
  have k2 : k ≠ 2 := by rcases hk with rfl | rfl | rfl | rfl | rfl | rfl | rfl <;> decide
  have kz : 1 ≤ usz k ∧ usz k ≤ 8 := by rcases hk with rfl | rfl | rfl | rfl | rfl | rfl | rfl <;> decide
  walk_at "MY enterC"
  (rename Fr _ _ _ _ => F0)
  have F1 : Fr _ _ _ (fun (y : Str) => if y = "many" then some (.int (n : Int) p3) else none) := F0
  clear F0
  k_steps
  · exact absurd (by assumption) k2
  unfold Stop
  (rename Fr _ _ _ _ => F9); (rename News _ _ _ _ => N9)
  refine ListComp_ok (n := n) (fun (i : Nat) => valD low bs (pa + (i : Int) * usz k).toNat k) rfl F9 N9 (by omega) (by with_unfolding_all rfl) (by decide) (by rfl) (by decide) (by rfl) ?h ?ok ?fin
  case h =>
    k_steps
    exact ⟨_, _, _, _, _, _, rfl, rfl, Keeps.of (by assumption), by assumption⟩
  case ok =>
    intro i t C oC m₂ h tk E' hi hC hx F N
    have hm := mul_room hi (show 0 ≤ usz k by omega)
    k_steps
    (rename Made _ _ _ => M9)
    exact ⟨_, _, _, rfl, Keeps.trans (by assumption) (by assumption), fun p hp => ⟨Keeps.none (by assumption) (M9 p hp).1, (M9 p hp).2⟩, by assumption⟩
  case fin =>
    intro D h tk ys tl F N off hd
    exact ret _ _ _ _ (Keeps.leave (by assumption) F) (fun p hp => ⟨Keeps.none (by assumption) (N p (by
      rcases List.mem_cons.mp hp with q | q
      · exact q ▸ .head _
      · exact .tail _ (List.mem_append_left _ q))).2.2, (N p (by
      rcases List.mem_cons.mp hp with q | q
      · exact q ▸ .head _
      · exact .tail _ (List.mem_append_left _ q))).1⟩) (DatIn.list (.head _) (hd.mono fun p hp => .tail _ hp))
theorem values_bad {B : Array UInt8} {bs : List Int} {pt p1 p2 p3 p4 : Tok} {pa k : Int} {n : Nat} {low : Bool} (S : Site w mean mg mb dp un base h₀ outer env L m s.heap 20) (hB : KBw.bInts B = bs) (hk : K7 k) (h0 : 0 ≤ pa) (hn0 : 1 ≤ n) (h1 : pa + n * usz k = (bs.length : Int) + 1) (h2 : bs.length < 400) (hn : n ≤ 100)
    (exc : ∀ h' tk' e, Fly s.heap (env :: outer) e h' → E (.ref e) { s with heap := h', toks := tk' }) :
    wpAny (model Prg w) (Ar dp un gd env outer) (call (.ref 86) [.bytes B pt, .int pa p1, .int k p2, .int (n : Int) p3, .bytes (ordB low) p4]) Q E s := by
  have k2 : k ≠ 2 := by rcases hk with rfl | rfl | rfl | rfl | rfl | rfl | rfl <;> decide
  have kz : 1 ≤ usz k ∧ usz k ≤ 8 := by rcases hk with rfl | rfl | rfl | rfl | rfl | rfl | rfl <;> decide
  obtain ⟨j, rfl⟩ : ∃ j, n = j + 1 := ⟨n - 1, by omega⟩
  walk_at "MY enterC"
  (rename Fr _ _ _ _ => F0)
  have F1 : Fr _ _ _ (fun (y : Str) => if y = "many" then some (.int ((j + 1 : Nat) : Int) p3) else none) := F0
  clear F0
  k_steps
  · exact absurd (by assumption) k2
  unfold Stop
  (rename Fr _ _ _ _ => F9); (rename News _ _ _ _ => N9); (rename Below _ _ _ _ => B9)
  refine ListComp_bad (n := j + 1) (j := j) rfl rfl rfl F9 N9 (pushX B9 F9 rfl rfl).frames (by omega) (by omega) (by with_unfolding_all rfl) (by decide) (by rfl) (by decide) (by rfl) ?h ?ok ?bad ?exc
  case h =>
    k_steps
    exact ⟨_, _, _, _, _, _, rfl, rfl, Keeps.of (by assumption), by assumption⟩
  case ok =>
    intro i t C oC m₂ h tk E' hi K hC hx F N
    have hm := mul_room (show i + 1 < j + 1 by omega) (show 0 ≤ usz k by omega)
    have hm' := mul_room (show i < i + 1 by omega) (show 0 ≤ usz k by omega)
    k_steps
    exact ⟨_, _, rfl, Keeps.trans (by assumption) (by assumption)⟩
  case bad =>
    intro t C oC m₂ h tk Q' K hC hx F N
    have hm : ((j + 1 : Nat) : Int) * usz k = (j : Int) * usz k + usz k := by rw [Int.natCast_add, Int.add_mul]; simp
    have hm' := mul_room (show j < j + 1 by omega) (show 0 ≤ usz k by omega)
    k_steps
    exact ⟨_, _, _, rfl, rfl, Fly.back (by assumption) (by assumption)⟩
  case exc =>
    intro e h' tk' x
    k_steps
    exact exc _ _ _ (by assumption)
end
local macro_rules | `(tactic| walk_at "getMethod bytes") => `(tactic| (k_here; (with_reducible refine method_find ?_)))
local macro_rules | `(tactic| walk_at "call builtin:bytes.find") => `(tactic| (k_here; (refine find_K ?_); intro t' k'))
local macro_rules | `(tactic| walk_at "call type:bytes") => `(tactic| (k_here; (with_reducible show wpAny _ _ (call (Value.type "bytes") [Value.bytes _ _]) _ _ _); (refine bytes_same ?_)))
example : True := by w_top off; trivial
theorem clip_pos (n : Nat) {i : Int} (h : 0 ≤ i) : clipAt n i = min i.toNat n := by
  obtain ⟨k, rfl⟩ := Int.eq_ofNat_of_zero_le h
  simpa using clipAt_nat n k
section
variable {w : World} {mean : ExcName → Option Value} {mg mb : Str → Option Value} {dp un : Nat} {gd : Option (List Code)} {base h₀ : Heap} {outer : List Env} {env : Env} {L : Addr} {m : Str → Option Value} {s : Shared}
  {news : List (Addr × Obj)} {Q : Value → Shared → Prop} {E : Value → Shared → Prop}
def BadT (bs : List Int) (pa n : Int) : Prop := pa ≤ (bs.length : Int) ∧ (bs.length : Int) < pa + n ∨ 0 ≤ n ∧ pa + n ≤ (bs.length : Int) ∧ ∀ k ∈ (bs.drop pa.toNat).take n.toNat, k ≠ 0
theorem text_bad0 {B : Array UInt8} {bs : List Int} {O : Value} {pt p1 p2 p3 : Tok} {pa n : Int} (S : Site w mean mg mb dp un base h₀ outer env L m s.heap 20) (hB : KBw.bInts B = bs) (h0 : 0 ≤ pa) (h2 : bs.length < 500) (hn' : n < 1000)
    (hp : 0 ≤ pa + n) (H : BadT bs pa n)
    (exc : ∀ h' tk' e, Fly s.heap (env :: outer) e h' → E (.ref e) { s with heap := h', toks := tk' }) :
    wpAny (model Prg w) (Ar dp un gd env outer) (call (.ref 86) [.bytes B pt, .int pa p1, .int 2 p2, .int n p3, O]) Q E s := by
  walk_at "MY enterC"
  (rename Fr _ _ _ _ => F0)
  have F1 : Fr _ _ _ (fun (y : Str) => if y = "many" then some (.int n p3) else none) := F0
  clear F0
  k_steps
  all_goals first
    | exact exc _ _ _ (by assumption)
    | skip
  (rename KBw.bInts _ = _ => K9)
  exfalso
  have hc1 := clip_pos bs.length h0
  have hc2 := clip_pos bs.length hp
  rcases H with ⟨q1, q2⟩ | ⟨q1, q2, hz⟩
  · omega
  · have e9 := findZ_none K9 (by
      rw [hc1, hc2, show min pa.toNat bs.length = pa.toNat by omega, show min (pa + n).toNat bs.length - pa.toNat = n.toNat by omega]
      exact hz)
    omega
theorem text_bad1 {B : Array UInt8} {bs : List Int} {O : Value} {pt p1 p2 p3 : Tok} {pa n : Int} (S : Site w mean mg mb dp un base h₀ outer env L m s.heap 20) (hB : KBw.bInts B = bs) (h0 : 0 ≤ pa) (h1 : pa ≤ (bs.length : Int)) (hn : (bs.length : Int) < pa + n) (h2 : bs.length < 500) (hn' : n < 500)
    (exc : ∀ h' tk' e, Fly s.heap (env :: outer) e h' → E (.ref e) { s with heap := h', toks := tk' }) :
    wpAny (model Prg w) (Ar dp un gd env outer) (call (.ref 86) [.bytes B pt, .int pa p1, .int 2 p2, .int n p3, O]) Q E s := text_bad0 S hB h0 h2 (by omega) (by omega) (.inl ⟨h1, hn⟩) exc
theorem text_bad2 {B : Array UInt8} {bs : List Int} {O : Value} {pt p1 p2 p3 : Tok} {pa n : Int} (S : Site w mean mg mb dp un base h₀ outer env L m s.heap 20) (hB : KBw.bInts B = bs) (h0 : 0 ≤ pa) (h1 : 0 ≤ n) (hn : pa + n ≤ (bs.length : Int)) (h2 : bs.length < 500)
    (hz : ∀ k ∈ (bs.drop pa.toNat).take n.toNat, k ≠ 0)
    (exc : ∀ h' tk' e, Fly s.heap (env :: outer) e h' → E (.ref e) { s with heap := h', toks := tk' }) :
    wpAny (model Prg w) (Ar dp un gd env outer) (call (.ref 86) [.bytes B pt, .int pa p1, .int 2 p2, .int n p3, O]) Q E s := text_bad0 S hB h0 h2 (by omega) (by omega) (.inr ⟨h1, hn, hz⟩) exc
end
example : True := by w_top off; trivial
section
theorem log2_top {t : Int} (h0 : 0 < t) (h1 : t ≤ 4294967296) : t.natAbs.log2 < 9000 :=
  (Nat.log2_lt (by omega)).mpr (Nat.lt_of_lt_of_le (show t.natAbs < 2 ^ 33 by omega) (Nat.pow_le_pow_right (by decide) (by decide)))
local macro_rules | `(tactic| walk_at "binaryOp FloorDiv int int") => `(tactic| (k_here; (with_reducible refine floordiv_int ?mye ?_ (Or.inl (PyProof.noPylong_of_log2 (log2_top ?my0 ?my1)))); (case mye => omega); (case my0 => omega); (case my1 => omega)))
theorem mul_m31 {z : Int} : PySem.IntMulOk (z.fmod 2147483647) (z.fmod 2147483647) := by
  have h0 := Int.fmod_nonneg_of_pos z (show (0 : Int) < 2147483647 by decide)
  have h1 := Int.fmod_lt_of_pos z (show (0 : Int) < 2147483647 by decide)
  exact PySem.IntMulOk.of_right (PySem.intBits_le_64 (by omega) (by omega))
local macro_rules | `(tactic| walk_at "binaryOp Mult int int") => `(tactic| (k_here; (with_reducible refine mul_int ?_ ?mym); (case mym => (with_unfolding_all exact mul_m31))))
abbrev src (a b : Int) (ta tb : Tok) (nn : Nat) : Obj := listOf #[.int a ta, .int b tb] nn
section
variable {w : World} {h₀ h h' : Heap} {L Sa : Addr} {m : Str → Option Value} {o o' : Obj} {news : List (Addr × Obj)} {nf : Obj → List (Addr × Obj)}
theorem Fr.mut (F : Fr h₀ L h m) (N : News h₀ L h news) (U : UpdF Sa o news nf) (k : Keeps [Sa] h h') : Fr h₀ L h' m := by
  obtain ⟨pre, post, rfl, e2, a, b⟩ := U.split
  have z := N (Sa, o) (List.mem_append.mpr (.inr (.head _)))
  obtain ⟨oL, a1, a2, hoL, a3⟩ := F.ns
  refine ⟨⟨oL, a1, a2, k L oL hoL (fun q => z.2.1 (List.mem_singleton.mp q).symm), a3⟩, fun b x e => k b x (F.keep b x e) fun q => ?_, F.above⟩
  rw [List.mem_singleton.mp q, z.2.2] at e
  cases e
theorem News.mut (N : News h₀ L h news) (U : UpdF Sa o news nf) (k : Keeps [Sa] h h') (ho : h'.get? Sa = some o') : News h₀ L h' (nf o') := by
  obtain ⟨pre, post, rfl, e2, a, b⟩ := U.split
  rw [e2]
  have z := N (Sa, o) (List.mem_append.mpr (.inr (.head _)))
  intro p hp
  rcases List.mem_append.mp hp with hp | hp
  · have y := N p (List.mem_append.mpr (.inl hp))
    exact ⟨k _ _ y.1 fun q => a p hp (List.mem_singleton.mp q), y.2⟩
  · rcases List.mem_cons.mp hp with rfl | hp
    · exact ⟨ho, z.2⟩
    · have y := N p (List.mem_append.mpr (.inr (.tail _ hp)))
      exact ⟨k _ _ y.1 fun q => b p hp (List.mem_singleton.mp q), y.2⟩
theorem News.own (N : News h₀ L h news) (U : UpdF Sa o news nf) : News h₀ L h [(Sa, o)] := by
  obtain ⟨pre, post, rfl, e2, a, b⟩ := U.split
  intro p hp
  rw [List.mem_singleton.mp hp]
  exact N _ (List.mem_append.mpr (.inr (.head _)))
end
section
variable {w : World} {mean : ExcName → Option Value} {mg mb : Str → Option Value} {dp un : Nat} {gd : Option (List Code)} {base h₀ : Heap} {outer : List Env} {env : Env} {L : Addr} {m : Str → Option Value} {s : Shared}
  {news : List (Addr × Obj)} {nf : Obj → List (Addr × Obj)} {Q : Value → Shared → Prop} {E : Value → Shared → Prop}
theorem take0 {Sa : Addr} {a b top : Int} {ta tb p1 : Tok} {nn : Nat} (S : Site w mean mg mb dp un base h₀ outer env L m s.heap 4) (N : News h₀ L s.heap [(Sa, src a b ta tb nn)]) (ha : 0 ≤ a) (hb0 : 0 ≤ b) (hb : b < 2147483647) (ht : 0 < top) (ht2 : top ≤ 4294967296)
    (ret : ∀ d t a' b' ta' tb' h' tk', 0 ≤ d → d < top → 0 ≤ a' → 0 ≤ b' → b' < 2147483647 → Keeps [Sa] s.heap h' → h'.get? Sa = some (src a' b' ta' tb' nn) → Q (.int d t) { s with heap := h', toks := tk' }) :
    wpAny (model Prg w) (Ar dp un gd env outer) (call (.ref 100) [.ref Sa, .int top p1]) Q E s := by
  walk_at "MY enter"
  k_steps
  all_goals (rename Fr _ _ _ _ => F9); (rename News _ _ _ _ => N9)
  · refine ret _ _ _ _ _ _ _ _ ?_ ?_ ?_ hb0 hb (Keeps.leave (by assumption) F9) (N9 _ (.head _)).1
    · exact Int.fmod_nonneg_of_pos _ ht
    · exact Int.fmod_lt_of_pos _ ht
    · exact Int.fdiv_nonneg ha (by omega)
  · refine ret _ _ _ _ _ _ _ _ ?_ ?_ ha ?_ ?_ (Keeps.leave (by assumption) F9) (N9 _ (.head _)).1
    · exact Int.fmod_nonneg_of_pos _ ht
    · exact Int.fmod_lt_of_pos _ ht
    · exact Int.fmod_nonneg_of_pos _ (by decide)
    · exact Int.fmod_lt_of_pos _ (by decide)
theorem take_ok {Sa : Addr} {a b top : Int} {ta tb p1 : Tok} {nn : Nat} (S : Site w mean mg mb dp un base h₀ outer env L m s.heap 4) (N : News h₀ L s.heap news) (U : UpdF Sa (src a b ta tb nn) news nf) (ha : 0 ≤ a) (hb0 : 0 ≤ b) (hb : b < 2147483647) (ht : 0 < top) (ht2 : top ≤ 4294967296)
    (ret : ∀ d t a' b' ta' tb' h' tk', 0 ≤ d → d < top → 0 ≤ a' → 0 ≤ b' → b' < 2147483647 → Fr h₀ L h' m → News h₀ L h' (nf (src a' b' ta' tb' nn)) → Q (.int d t) { s with heap := h', toks := tk' }) :
    wpAny (model Prg w) (Ar dp un gd env outer) (call (.ref 100) [.ref Sa, .int top p1]) Q E s :=
  take0 S (News.own N U) ha hb0 hb ht ht2 fun d t a' b' ta' tb' h' tk' x1 x2 x3 x4 x5 k g => ret d t a' b' ta' tb' h' tk' x1 x2 x3 x4 x5 (Fr.mut S.F N U k) (News.mut N U k g)
end
theorem Keeps.leave2 {Sa T : Addr} {o : Obj} {h h' g : Heap} {L : Addr} {m : Str → Option Value} (k : Keeps [Sa, T] h g) (F : Fr g L h' m) (e : h.get? T = some o) (e' : h'.get? T = some o) : Keeps [Sa] h h' := fun b x q n => by
  by_cases z : b = T
  · rw [z] at q ⊢
    rw [e] at q
    rw [e', q]
  · exact F.keep b x (k b x q fun y => by
      rcases List.mem_cons.mp y with y | y
      · exact n (y ▸ .head _)
      · exact z (List.mem_singleton.mp y))
theorem great0 {c : Prop} [Decidable c] (x : Int) : 0 ≤ (if -1 - x > x then -1 - x else x) * (if decide c = true then 1 else 0) :=
  Int.mul_nonneg (by split <;> omega) (by split <;> decide)
theorem getD_at {l : List Value} {i : Nat} (h : i < l.length) : l[i]? = some (l.getD i .none) := by
  rw [List.getD_eq_getElem?_getD, List.getElem?_eq_getElem h]; rfl
section
variable {prog : Program} {w : World} {A : Around} {E : Value → Shared → Prop} {s : Shared} {h₀ : Heap} {L T : Addr} {news : List (Addr × Obj)}
theorem thing_at {value slice : Expr} {its : Array Value} {n : Nat} {k : Int} {u : Tok} {Q : Value → Shared → Prop} (N : News h₀ L s.heap news) (hm : (T, listOf its n) ∈ news)
    (h0 : 0 ≤ k) (h1 : k < its.size) (h2 : its.size ≤ 100) (h : Q (its.toList.getD k.toNat .none) s)
    (hs : subscripted slice false (.ref T) (.int k u) = operate [.ref T, .int k u] (getItem (.ref T) (.int k u)) := by with_unfolding_all rfl) :
    wpAny (model prog w) A (subscriptTail value slice (.ref T) (.int k u)) Q E s :=
  item_listR (PySem.IsL.isList (n := n) (N _ hm).1) h0 (by omega) (by rw [← Array.getElem?_toList]; exact getD_at (by rw [Array.length_toList]; omega)) h hs
end
local macro_rules | `(tactic| walk_at "subscriptTail") => `(tactic| (k_here; (with_reducible show wpAny _ _ (subscriptTail _ _ (Value.ref _) (Value.int _ _)) _ _ _); k_dflt (refine' thing_at ?k1 ?k2 ?k3 ?k4 ?k5 ?_ ?k6; (case k1 => k_asm); (case k2 => exact .tail _ (.head _)); (case k3 => assumption); (case k4 => assumption); (case k5 => assumption); (case k6 => with_unfolding_all rfl); k_whole)))
local macro_rules | `(tactic| walk_at "call ref") => `(tactic| (k_here; (with_reducible show wpAny _ _ (call (Value.ref 100) _) _ _ _); k_dflt (refine' take_ok ?S ?N ?U ?a0 ?b0 ?b1 ?t0 ?t1 ?_; (case S => walk_at "MY site"); (case N => k_asm); (case U => k_updF); (case a0 => assumption); (case b0 => assumption); (case b1 => assumption); (case t0 => first | omega | decide); (case t1 => first | omega | decide)); intro d' t' a' b' ta' tb' h' tk' d0' d1' a0' b0' b1' F' N'; (try dsimp only at N'); (try k_sweep); (try dsimp only)))
section
variable {w : World} {mean : ExcName → Option Value} {mg mb : Str → Option Value} {dp un : Nat} {gd : Option (List Code)} {base h₀ : Heap} {outer : List Env} {env : Env} {L : Addr} {m : Str → Option Value} {s : Shared}
  {news : List (Addr × Obj)} {nf : Obj → List (Addr × Obj)} {Q : Value → Shared → Prop} {E : Value → Shared → Prop}
theorem one0 {Sa T : Addr} {a b : Int} {ta tb : Tok} {nn k : Nat} {its : Array Value} (S : Site w mean mg mb dp un base h₀ outer env L m s.heap 8) (ne : T ≠ Sa) (N : News h₀ L s.heap [(Sa, src a b ta tb nn), (T, listOf its k)]) (ha : 0 ≤ a) (hb0 : 0 ≤ b) (hb : b < 2147483647) (ht : 0 < its.size) (ht2 : its.size ≤ 100)
    (ret : ∀ i a' b' ta' tb' h' tk', i < its.size → 0 ≤ a' → 0 ≤ b' → b' < 2147483647 → Keeps [Sa] s.heap h' → h'.get? Sa = some (src a' b' ta' tb' nn) → Q (its.toList.getD i .none) { s with heap := h', toks := tk' }) :
    wpAny (model Prg w) (Ar dp un gd env outer) (call (.ref 107) [.ref Sa, .ref T]) Q E s := by
  walk_at "MY enter"
  k_steps
  (rename Fr _ _ _ _ => F9); (rename News _ _ _ _ => N9)
  exact ret _ _ _ _ _ _ _ (by omega) (by assumption) (by assumption) (by assumption) (Keeps.leave2 (by assumption) F9 (N _ (.tail _ (.head _))).1 (N9 _ (.tail _ (.head _))).1) (N9 _ (.head _)).1
theorem News.nil_of {g h : Heap} {L : Addr} {m : Str → Option Value} (_ : Fr g L h m) : News g L h [] := News.nil
def CellEnd (g : Heap) (L : Addr) (m : Str → Option Value) (s : Shared) (fl : Flow) (s' : Shared) : Prop := fl = .next ∧ ∃ h tk c t, s' = { s with heap := h, toks := tk } ∧ Fr g L h (fun (y : Str) => if y = "cell" then some (.int c t) else m y)
theorem CellEnd.intro {g h : Heap} {L : Addr} {m : Str → Option Value} {s : Shared} {tk : Nat} {c : Int} {t : Tok} (F : Fr g L h (fun (y : Str) => if y = "cell" then some (.int c t) else m y)) : CellEnd g L m s .next { s with heap := h, toks := tk } := ⟨rfl, h, tk, c, t, rfl, F⟩
theorem cell_cut {prog : Program} {A : Around} {st : Stmt} {Q : Flow → Shared → Prop} {g : Heap} (F : Fr g L s.heap m)
    (h : wpAny (model prog w) A (exec st env) (CellEnd g L m s) E s) (k : ∀ h tk c t, Fr g L h (fun (y : Str) => if y = "cell" then some (.int c t) else m y) → Q .next { s with heap := h, toks := tk }) : wpAny (model prog w) A (exec st env) Q E s :=
  wpAny_mono h (fun fl s' hq => by
    obtain ⟨rfl, h, tk, c, t, rfl, F'⟩ := hq
    exact k h tk c t F') fun _ _ e => e
def Stop0 (P : Prop) : Prop := P
theorem stop_in0 {P : Prop} (h : Stop0 P) : P := h
local macro_rules | `(tactic| walk_at "exec Assign cons IfExp") => `(tactic| (k_here; refine stop_in0 ?_))
theorem pool_ok {Sc : Addr} {xs : List Value} {ns : List Int} (S : Site w mean mg mb dp un base h₀ outer env L m s.heap 8) (hL : h₀.IsList Sc xs.toArray) (hi : IntsAre xs ns) (hn : ns.length ≤ 63)
    (ret : ∀ T a b ta tb h' tk', 0 ≤ a → 0 ≤ b → b < 2147483647 → Keeps [] s.heap h' → s.heap.get? T = none → h'.get? T = some (src a b ta tb 0) → Q (.ref T) { s with heap := h', toks := tk' }) :
    wpAny (model Prg w) (Ar dp un gd env outer) (call (.ref 93) [.ref Sc]) Q E s := by
  walk_at "MY enter"
  (rename Heap.StaysIn h₀ _ => gH9)
  have hLg : Heap.IsList _ Sc xs.toArray := (let ⟨o, ho, r⟩ := hL; ⟨o, gH9 _ _ ho, r⟩)
  k_steps
  unfold Stop0
  (rename Fr _ _ _ _ => F8)
  refine cell_cut F8 ?first ?second
  case first =>
    refine wpAny_Assign_Name ?_
    k_steps
    all_goals (
      (rename Fr _ _ _ _ => F9)
      exact CellEnd.intro F9)
  case second =>
    intro h tk c t F7
    have N7 := News.nil_of F7
    clear F8
    k_steps
    all_goals (
      (rename Fr _ _ _ _ => F9); (rename News _ _ _ _ => N9)
      refine ret _ _ _ _ _ _ _ ?_ ?_ ?_ (Keeps.leave (by assumption) F9) (Keeps.none (by assumption) (N9 _ (.head _)).2.2) (N9 _ (.head _)).1)
    all_goals first
      | exact great0 _
      | exact Int.fmod_nonneg_of_pos _ (by decide)
      | exact Int.fmod_lt_of_pos _ (by decide)
end
end
example {prog : Program} {w : World} {A : Around} {E : Value → Shared → Prop} {s : Shared} {env : Env} {Q : Flow → Shared → Prop} (h : Q .next s) : wpAny (model prog w) A (execs [] env) Q E s := by walk1; assumption
local macro_rules | `(tactic| walk_at "binaryOp FloorDiv int int") => `(tactic| (k_here; (with_reducible refine floordiv_int ?mye ?_ (Or.inl (PyProof.noPylong_of_log2 (log2_top ?my0 ?my1)))); (case mye => omega); (case my0 => omega); (case my1 => omega)))
example : True := by w_top off; trivial
section
variable {prog : Program} {w : World} {A : Around} {E : Value → Shared → Prop} {s : Shared} {h₀ base : Heap} {L : Addr} {m : Str → Option Value} {env : Env} {outer : List Env} {news : List (Addr × Obj)}
def ElM (s : Shared) (h : Heap) (σ : List (Addr × Obj)) (Inv : List (Addr × Obj) → Prop) (R : Value → Prop) (y : Value) (s₂ : Shared) : Prop :=
  ∃ σ' h' tk', s₂ = { s with heap := h', toks := tk' } ∧ Keeps (σ.map (·.1)) h h' ∧ σ'.map (·.1) = σ.map (·.1) ∧ (∀ p ∈ σ', h'.get? p.1 = some p.2) ∧ Inv σ' ∧ R y
theorem rest_flat {elt : Expr} {x : Str} {scope : Scope} {cl : List (Str × Addr)} {S : List (Addr × Obj) → Prop} {P : Nat → Value → Prop} {Fin : List Value → List (Addr × Obj) → Prop} {as : List Addr} {n : Nat} {Inv : List (Addr × Obj) → Prop} {R : Nat → Value → Prop}
    (hoff : ∀ q ∈ news, q.1 ∉ as) (hS : ∀ σ, S (σ ++ news))
    (turn : ∀ i v C oC m₂ h tk E' σ, i < n → P i v → Inv σ → σ.map (·.1) = as → LCg.NsObj oC m₂ → m₂ x = some v → Fr h₀ L h m → News h₀ L h ((C, oC) :: (σ ++ news)) → (∀ a ∈ as, @Ne Nat C a) →
      wpAny (model prog w) A (eval elt (compEnvC scope cl C env)) (ElM s h σ Inv (R i)) E' { s with heap := h, toks := tk })
    (fin : ∀ ys σ, ys.length = n → (∀ k y, ys[k]? = some y → R k y) → Inv σ → σ.map (·.1) = as → Fin ys (σ ++ news)) :
    ∀ (j i : Nat) (ys : List Value) (σ : List (Addr × Obj)), i + j = n → ys.length = i → (∀ k y, ys[k]? = some y → R k y) → Inv σ → σ.map (·.1) = as →
      LCg.CompRest prog w A h₀ L m env elt x scope cl s S P Fin j i ys (σ ++ news) := by
  intro j
  induction j with
  | zero =>
    intro i ys σ hi hl hy hI ha
    exact LCg.CompRest.zero (fin ys σ (by omega) hy hI ha)
  | succ j ih =>
    intro i ys σ hi hl hy hI ha
    refine LCg.CompRest.succ ?_
    intro v I oI C oC D m₂ h tk E' hv hC hx' F' N' off' ne
    have mem : ∀ a ∈ as, ∃ o, (a, o) ∈ σ := fun a q => by
      rw [← ha] at q
      obtain ⟨p, hp, rfl⟩ := List.mem_map.mp q
      exact ⟨p.2, hp⟩
    have N₁ : News h₀ L h ((C, oC) :: (σ ++ news)) := fun p hp => N' p (by
      rcases List.mem_cons.mp hp with rfl | hp
      · exact .tail _ (.head _)
      · exact .tail _ (.tail _ (.tail _ hp)))
    have off := fun p hp => off'.mem p hp
    refine wpAny_mono (turn i v C oC m₂ h tk E' σ (by omega) hv hI ha hC hx' F' N₁ (fun a q => ?_)) (fun y s₂ hq => ?_) fun _ _ e => e
    · obtain ⟨o, ho⟩ := mem a q
      exact Ne.symm (off _ (List.mem_append_left _ ho)).2.1
    obtain ⟨σ', h', tk', rfl, K, e1, at', hI', hR⟩ := hq
    have bad : ∀ a ∈ σ.map (·.1), (∃ o, (a, o) ∈ σ) := fun a q => by
      obtain ⟨p, hp, rfl⟩ := List.mem_map.mp q
      exact ⟨p.2, hp⟩
    have fresh : ∀ a ∈ σ.map (·.1), a ≠ L ∧ h₀.get? a = none ∧ a ≠ I ∧ a ≠ C ∧ a ≠ D := fun a q => by
      obtain ⟨o, ho⟩ := bad a q
      have z := N' (a, o) (.tail _ (.tail _ (.tail _ (List.mem_append_left _ ho))))
      have z' := off (a, o) (List.mem_append_left _ ho)
      exact ⟨z.2.1, z.2.2, z'⟩
    have F₂ : Fr h₀ L h' m := by
      obtain ⟨oL, a1, a2, hoL, a3⟩ := F'.ns
      refine ⟨⟨oL, a1, a2, K L oL hoL (fun q => (fresh L q).1 rfl), a3⟩, fun b x e => K b x (F'.keep b x e) fun q => ?_, F'.above⟩
      rw [(fresh b q).2.1] at e; cases e
    have kp : ∀ p : Addr × Obj, h₀.get? p.1 = none → p.1 ≠ L → h.get? p.1 = some p.2 → p.1 ∉ σ.map (·.1) → h'.get? p.1 = some p.2 ∧ p.1 ≠ L ∧ h₀.get? p.1 = none := fun p a b c d => ⟨K _ _ c d, b, a⟩
    refine ⟨h', tk', σ' ++ news, rfl, F₂, fun p hp => ?_, LCg.Off3.of fun p hp => ?_, hS σ', ih (i + 1) (ys ++ [y]) σ' (by omega) (by simp [hl]) (fun k z hz => ?_) hI' (e1.trans ha)⟩
    · rcases List.mem_cons.mp hp with rfl | hp
      · have z := N' (I, oI) (.head _)
        exact kp _ z.2.2 z.2.1 z.1 fun q => (fresh _ q).2.2.1 rfl
      rcases List.mem_cons.mp hp with rfl | hp
      · have z := N' (C, oC) (.tail _ (.head _))
        exact kp _ z.2.2 z.2.1 z.1 fun q => (fresh _ q).2.2.2.1 rfl
      rcases List.mem_cons.mp hp with rfl | hp
      · have z := N' (D, LCg.lst ys) (.tail _ (.tail _ (.head _)))
        exact kp _ z.2.2 z.2.1 z.1 fun q => (fresh _ q).2.2.2.2 rfl
      rcases List.mem_append.mp hp with hp | hp
      · have q : p.1 ∈ σ.map (·.1) := e1 ▸ List.mem_map_of_mem hp
        exact ⟨at' p hp, (fresh _ q).1, (fresh _ q).2.1⟩
      · have z := N' p (.tail _ (.tail _ (.tail _ (List.mem_append_right _ hp))))
        exact kp _ z.2.2 z.2.1 z.1 fun q => hoff p hp (ha ▸ q)
    · rcases List.mem_append.mp hp with hp | hp
      · have q : p.1 ∈ σ.map (·.1) := e1 ▸ List.mem_map_of_mem hp
        exact (fresh _ q).2.2
      · exact off p (List.mem_append_right _ hp)
    · rcases Nat.lt_or_ge k ys.length with q | q
      · rw [List.getElem?_append_left q] at hz
        exact hy k z hz
      · rw [List.getElem?_append_right q] at hz
        have e : k - ys.length = 0 := by
          rcases Nat.eq_zero_or_pos (k - ys.length) with e | e
          · exact e
          · rw [List.getElem?_eq_none (by simp; omega)] at hz; cases hz
        rw [e] at hz
        simp at hz
        subst hz
        have : k = i := by omega
        subst this
        exact hR
def RangeM (s : Shared) (h₀ : Heap) (L : Addr) (m : Str → Option Value) (news : List (Addr × Obj)) (as : List Addr) (Inv : List (Addr × Obj) → Prop) (Bd : Nat → Prop) (xv : Value) (s₁ : Shared) : Prop :=
  ∃ r n t u v h tk σ, xv = .ref r ∧ s₁ = { s with heap := h, toks := tk } ∧ Fr h₀ L h m ∧ News h₀ L h (σ ++ news) ∧ σ.map (·.1) = as ∧ Inv σ ∧ Bd n ∧ IsRange h r 0 ((n : Nat) : Int) 1 t u v
theorem Assign_range {elt iter : Expr} {x y : Str} {px py : Pos} {scope : Scope} {cl : List (Str × Addr)} {pos spos : Pos} {Q : Flow → Shared → Prop} {as : List Addr} {Inv : List (Addr × Obj) → Prop} {R : Nat → Value → Prop} (Bd : Nat → Prop) (hh : A.handled = none) (F₀ : Fr h₀ L s.heap m) (N₀ : News h₀ L s.heap news) (hLe : env.locals = L)
    (hoff : ∀ q ∈ news, q.1 ∉ as) (htop : ∀ n, Bd n → n ≤ 1000)
    (hsw : swapsWith (.ListComp elt [⟨.Name x px, iter, [], 0⟩] scope pos) (some (.Name y py)) spos.line env = pure true)
    (hclos : closureFor scope env = pure cl) (hcell : ∀ z ∈ scope.names, z.2 ≠ .cell) (hkind : scope.kind = .function)
    (hnames : ∀ z ∈ scope.names, z.2 = .local → scope.names.lookup z.1 = some .local) (hx : scope.names.lookup x = some .local)
    (hy : env.kindOf y = some .local) (hp : (env.scope.kind == .class || (env.scope.kind == .module && env.locals != env.globals)) = false)
    (h : wpAny (model prog w) A (eval iter env) (RangeM s h₀ L m news as Inv Bd) E s)
    (turn : ∀ i n t C oC m₂ h tk E' σ, Bd n → i < n → Inv σ → σ.map (·.1) = as → LCg.NsObj oC m₂ → m₂ x = some (.int (i : Int) t) → Fr h₀ L h m → News h₀ L h ((C, oC) :: (σ ++ news)) → (∀ a ∈ as, @Ne Nat C a) →
      wpAny (model prog w) A (eval elt (compEnvC scope cl C env)) (ElM s h σ Inv (R i)) E' { s with heap := h, toks := tk })
    (fin : ∀ D ys σ h tk, Bd ys.length → (∀ k y, ys[k]? = some y → R k y) → Inv σ → σ.map (·.1) = as → Fr h₀ L h (fun z => if z = y then some (.ref D) else m z) → News h₀ L h ((D, LCg.lst ys) :: (σ ++ news)) → (∀ p ∈ σ ++ news, @Ne Nat p.1 D) → Q .next { s with heap := h, toks := tk })
    (hs : ∀ x, foldedSetIterable iter env x = pure x := by intro _; rfl) :
    wpAny (model prog w) A (exec (.Assign [.Name y py] (.ListComp elt [⟨.Name x px, iter, [], 0⟩] scope pos) spos) env) Q E s := by
  refine LCg.Assign_ListComp_U F₀ hLe hsw hclos hcell hkind hnames hx hy hp (wpAny_mono h (fun xv s₁ h₁ => ?_) fun _ _ e => e) hs
  obtain ⟨r, n, t, u, v, hp₁, tk₁, σ, rfl, rfl, F, N, ha, hI, hn, hr⟩ := h₁
  have hn1 := htop n hn
  refine LCg.CompSrc.range (n := n) hh F N hr (small_one (by omega) (by omega) (by omega) (by omega)) (by rw [rangeSize_nat]; omega) (by rw [sizeLine_eq]; omega) fun g => ?_
  refine rest_flat (n := n) (R := R) (Inv := Inv) hoff (fun _ => trivial) (fun i v C oC m₂ h tk E' σ hi hv hI ha hC hx' F' N' ne => ?_) (fun ys σ hl hy hI ha D h tk F' N' o1 => fin D ys σ h tk (hl ▸ hn) hy hI ha F' N' fun p hp => ?_) n 0 [] σ (by omega) rfl (fun k y hk => by simp at hk) hI ha
  · obtain ⟨ti, rfl⟩ := hv
    rw [Int.zero_add] at hx'
    exact turn i n ti C oC m₂ h tk E' σ hn hi hI ha hC hx' F' N' ne
  · exact off1_mem o1 p hp
theorem eval_list {elt iter : Expr} {x : Str} {px : Pos} {scope : Scope} {cl : List (Str × Addr)} {pos : Pos} {Q : Value → Shared → Prop} {its : Array Value} {R : Nat → Value → Prop} (hh : A.handled = none) (F₀ : Fr h₀ L s.heap m) (N₀ : News h₀ L s.heap news)
    (hclos : closureFor scope env = pure cl) (hcell : ∀ z ∈ scope.names, z.2 ≠ .cell) (hkind : scope.kind = .function)
    (hnames : ∀ z ∈ scope.names, z.2 = .local → scope.names.lookup z.1 = some .local) (hx : scope.names.lookup x = some .local) (hsz : its.size ≤ 1000)
    (h : wpAny (model prog w) A (eval iter env) (fun xv s₁ => ∃ ax h tk k, xv = .ref ax ∧ s₁ = { s with heap := h, toks := tk } ∧ Fr h₀ L h m ∧ News h₀ L h news ∧ (ax, listOf its k) ∈ news) E s)
    (turn : ∀ i v C oC m₂ h tk E', its[i]? = some v → LCg.NsObj oC m₂ → m₂ x = some v → Fr h₀ L h m → News h₀ L h ((C, oC) :: news) →
      wpAny (model prog w) A (eval elt (compEnvC scope cl C env)) (ElM s h [] (fun σ => σ = []) (R i)) E' { s with heap := h, toks := tk })
    (fin : ∀ D ys h tk, ys.length = its.size → (∀ k y, ys[k]? = some y → R k y) → Fr h₀ L h m → News h₀ L h ((D, LCg.lst ys) :: news) → (∀ p ∈ news, @Ne Nat p.1 D) → Q (.ref D) { s with heap := h, toks := tk })
    (hs : ∀ x, foldedSetIterable iter env x = pure x := by intro _; rfl) :
    wpAny (model prog w) A (eval (.ListComp elt [⟨.Name x px, iter, [], 0⟩] scope pos) env) Q E s := by
  refine LCg.ListComp_U F₀ hclos hcell hkind hnames hx (wpAny_mono h (fun xv s₁ h₁ => ?_) fun _ _ e => e) hs
  obtain ⟨ax, hp₁, tk₁, k, rfl, rfl, F, N, hm⟩ := h₁
  refine LCg.CompSrc.ledger (k := k) hh F N hm (by rw [sizeLine_eq]; omega) fun g => ?_
  refine rest_flat (n := its.size) (as := []) (R := R) (Inv := fun σ => σ = []) (by simp) (fun σ => .inr ⟨_, List.mem_append_right _ hm, rfl, _, rfl⟩) (fun i v C oC m₂ h tk E' σ hi hv hI ha hC hx' F' N' ne => ?_) (fun ys σ hl hy hI ha D h tk F' N' o1 => ?_) its.size 0 [] [] (by omega) rfl (fun k y hk => by simp at hk) rfl rfl
  · subst hI
    exact turn i v C oC m₂ h tk E' hv hC hx' F' N'
  · subst hI
    exact fin D ys h tk hl hy F' N' fun p hp => off1_mem o1 p hp
open KBw in
theorem bytes_st {I : Addr} {bb : Array UInt8} {bt : Tok} {i : Nat} {h h' : Heap} {o : Obj} (st : IsBytesIter h I bb bt i) (e : h.get? I = some o) (e' : h'.get? I = some o) : IsBytesIter h' I bb bt i := by
  obtain ⟨o', h1, h2⟩ := st
  rw [e] at h1
  cases h1
  exact ⟨o, e', h2⟩
theorem eval_bytes {elt iter : Expr} {x : Str} {px : Pos} {scope : Scope} {cl : List (Str × Addr)} {pos : Pos} {Q : Value → Shared → Prop} {bb : Array UInt8} {R : Nat → Value → Prop} (hh : A.handled = none) (F₀ : Fr h₀ L s.heap m) (N₀ : News h₀ L s.heap news)
    (hclos : closureFor scope env = pure cl) (hcell : ∀ z ∈ scope.names, z.2 ≠ .cell) (hkind : scope.kind = .function)
    (hnames : ∀ z ∈ scope.names, z.2 = .local → scope.names.lookup z.1 = some .local) (hx : scope.names.lookup x = some .local) (hsz : bb.size ≤ 1000)
    (h : wpAny (model prog w) A (eval iter env) (fun xv s₁ => ∃ bt h tk, xv = .bytes bb bt ∧ s₁ = { s with heap := h, toks := tk } ∧ Fr h₀ L h m ∧ News h₀ L h news) E s)
    (turn : ∀ i c u C oC m₂ h tk E', bb[i]? = some c → LCg.NsObj oC m₂ → m₂ x = some (.int (c.toNat : Int) u) → Fr h₀ L h m → News h₀ L h ((C, oC) :: news) →
      wpAny (model prog w) A (eval elt (compEnvC scope cl C env)) (ElM s h [] (fun σ => σ = []) (R i)) E' { s with heap := h, toks := tk })
    (fin : ∀ D ys h tk, ys.length = bb.size → (∀ k y, ys[k]? = some y → R k y) → Fr h₀ L h m → News h₀ L h ((D, LCg.lst ys) :: news) → (∀ p ∈ news, @Ne Nat p.1 D) → Q (.ref D) { s with heap := h, toks := tk })
    (hs : ∀ x, foldedSetIterable iter env x = pure x := by intro _; rfl) :
    wpAny (model prog w) A (eval (.ListComp elt [⟨.Name x px, iter, [], 0⟩] scope pos) env) Q E s := by
  rw [eval_ListComp]
  refine wpAny_comprehension_free (use := none) rfl hs hclos hkind hnames (wpAny_mono h (fun xv s₁ h₁ => ?_) fun _ _ e => e)
  obtain ⟨bt, hp₁, tk₁, rfl, rfl, F, N⟩ := h₁
  refine KBw.pyIter_bytes ?_
  refine LCg.block_U (KBw.walks hh _ bb bt) (S := fun _ => True) (by rw [sizeLine_eq]; omega) (fun i h st => by obtain ⟨o, e, _⟩ := st; exact ⟨o, e⟩) (fun i h h' o nw st e e' _ _ _ => bytes_st st e e') hcell hkind hx ⟨_, Heap.get?_push_size _ rfl, rfl, rfl⟩ (fun b hb => ?_)
    (F.keeps fun _ _ e => Heap.get?_push_of_some _ e) (N.grown fun _ _ e => Heap.get?_push_of_some _ e) (Nat.ne_of_lt F.ns.lt) (next_is_new F) (fun p hp => Nat.ne_of_lt (Heap.lt_size (N p hp).1)) trivial
    (Fin := fun ys nw => nw = news ∧ ys.length = bb.size ∧ ∀ k y, ys[k]? = some y → R k y)
    (rest_flat (n := bb.size) (as := []) (R := R) (Inv := fun σ => σ = []) (by simp) (fun σ => trivial) (fun i v C oC m₂ h tk E' σ hi hv hI ha hC hx' F' N' ne => ?_) (fun ys σ hl hy hI ha => ?_) bb.size 0 [] [] (by omega) rfl (fun k y hk => by simp at hk) rfl rfl) ?_
  · rw [List.mem_singleton.mp hb]
    show hp₁.objs.size < (hp₁.push _).objs.size
    rw [Heap.size_push]; exact Nat.lt_succ_self _
  · subst hI
    obtain ⟨c, u, hc, rfl⟩ := hv
    exact turn i c u C oC m₂ h tk E' hc hC hx' F' N'
  · subst hI
    exact ⟨rfl, hl, hy⟩
  · rintro D C h tk m' ys news' F' N' o1 hn hC₀ hD₀ hCL hDL hCD offC ⟨rfl, hl, hy⟩
    refine ⟨m', hn, fun h'' hs'' => fin D ys h'' tk hl hy (F'.change hs'' hCL hC₀) (fun p hp => ?_) fun p hp => off1_mem o1 p hp⟩
    refine ⟨hs''.extBut _ _ ?_ (N' p hp).1, (N' p hp).2⟩
    rcases List.mem_cons.mp hp with rfl | hp
    · exact Ne.symm hCD
    · exact offC p hp
end
example : True := by w_top off; trivial
def octF (x : Int) (sz i : Nat) : Int := ((x.fmod (256 ^ sz)).fdiv (256 ^ i)).fmod 256
def octsF (low : Bool) (x : Int) (sz : Nat) : List Int := if low then (List.range sz).map (octF x sz) else ((List.range sz).map (octF x sz)).reverse
theorem ints_of {f : Nat → Int} {ys : List Value} : (∀ k y, ys[k]? = some y → ∃ t, y = Value.int (f k) t) → IntsAre ys ((List.range ys.length).map f) := by
  induction ys generalizing f with
  | nil => intro _; exact .nil
  | cons y ys ih =>
    intro h
    obtain ⟨t, rfl⟩ := h 0 _ rfl
    rw [List.length_cons, List.range_succ_eq_map, List.map_cons, List.map_map]
    exact .cons _ _ (ih (f := f ∘ Nat.succ) fun k y hk => h (k + 1) y hk)
section
variable {w : World} {mean : ExcName → Option Value} {mg mb : Str → Option Value} {dp un : Nat} {gd : Option (List Code)} {base h₀ : Heap} {outer : List Env} {env : Env} {L : Addr} {m : Str → Option Value} {s : Shared}
  {news : List (Addr × Obj)} {nf : Obj → List (Addr × Obj)} {Q : Value → Shared → Prop} {E : Value → Shared → Prop}
theorem octets_ok {x sz : Int} {t1 t2 t3 : Tok} {low : Bool} (S : Site w mean mg mb dp un base h₀ outer env L m s.heap 8) (hz : sz = 1 ∨ sz = 2 ∨ sz = 4)
    (ret : ∀ D ys n h' tk', Keeps [] s.heap h' → IntsAre ys (octsF low x sz.toNat) → s.heap.get? D = none → h'.get? D = some (listOf ys.toArray n) → Q (.ref D) { s with heap := h', toks := tk' }) :
    wpAny (model Prg w) (Ar dp un gd env outer) (call (.ref 112) [.int x t1, .int sz t2, .bytes (ordB low) t3]) Q E s := by
  rcases hz with rfl | rfl | rfl
  case inl =>
    walk_at "MY enterC"
    (rename Fr _ _ _ _ => F0)
    have F1 : Fr _ _ _ (fun (y : Str) => if y = "way" then some (.bytes (ordB low) t3) else none) := F0
    clear F0
    k_steps
    unfold Stop
    (rename Fr _ _ _ _ => F9); (rename News _ _ _ _ => N9)
    refine Assign_range (as := []) (Inv := fun σ => σ = []) (R := fun i y => ∃ t, y = .int (octF x 1 i) t) (fun n => n = 1) rfl F9 N9 rfl (by simp) (fun n e => by omega) (by with_unfolding_all rfl) (by with_unfolding_all rfl) (by decide) (by rfl) (by decide) (by rfl) (by rfl) (by rfl) ?h1 ?turn1 ?fin1
    case h1 =>
      k_steps
      exact ⟨_, 1, _, _, _, _, _, [], rfl, rfl, by assumption, by assumption, rfl, rfl, rfl, by assumption⟩
    case turn1 =>
      intro i n t C oC m₂ h tk E' σ hn hi hI ha hC hx F N ne
      subst hn
      subst hI
      simp only [List.nil_append] at N
      obtain rfl : i = 0 := by omega
      all_goals k_steps
      all_goals exact ⟨[], _, _, rfl, by (first | exact Keeps.refl | exact Keeps.of (by assumption)), rfl, by simp, rfl, _, rfl⟩
    case fin1 =>
      intro D ys σ h tk hl hy hI ha F N off
      subst hI
      simp only [List.nil_append] at N
      have hi := ints_of hy
      rw [hl] at hi
      clear F9 N9
      cases low
      all_goals first | rw [ordF] at F | rw [ordT] at F
      all_goals (
        k_steps
        (rename Fr _ _ _ _ => F9); (rename News _ _ _ _ => N9)
        exact ret _ _ _ _ _ (Keeps.leave (by assumption) F9) (by assumption) (Keeps.none (by assumption) (N9 _ (.head _)).2.2) (N9 _ (.head _)).1)
  case inr.inl =>
    walk_at "MY enterC"
    (rename Fr _ _ _ _ => F0)
    have F1 : Fr _ _ _ (fun (y : Str) => if y = "way" then some (.bytes (ordB low) t3) else none) := F0
    clear F0
    k_steps
    unfold Stop
    (rename Fr _ _ _ _ => F9); (rename News _ _ _ _ => N9)
    refine Assign_range (as := []) (Inv := fun σ => σ = []) (R := fun i y => ∃ t, y = .int (octF x 2 i) t) (fun n => n = 2) rfl F9 N9 rfl (by simp) (fun n e => by omega) (by with_unfolding_all rfl) (by with_unfolding_all rfl) (by decide) (by rfl) (by decide) (by rfl) (by rfl) (by rfl) ?h2 ?turn2 ?fin2
    case h2 =>
      k_steps
      exact ⟨_, 2, _, _, _, _, _, [], rfl, rfl, by assumption, by assumption, rfl, rfl, rfl, by assumption⟩
    case turn2 =>
      intro i n t C oC m₂ h tk E' σ hn hi hI ha hC hx F N ne
      subst hn
      subst hI
      simp only [List.nil_append] at N
      obtain rfl | rfl : i = 0 ∨ i = 1 := by omega
      all_goals k_steps
      all_goals exact ⟨[], _, _, rfl, by (first | exact Keeps.refl | exact Keeps.of (by assumption)), rfl, by simp, rfl, _, rfl⟩
    case fin2 =>
      intro D ys σ h tk hl hy hI ha F N off
      subst hI
      simp only [List.nil_append] at N
      have hi := ints_of hy
      rw [hl] at hi
      clear F9 N9
      cases low
      all_goals first | rw [ordF] at F | rw [ordT] at F
      all_goals (
        k_steps
        (rename Fr _ _ _ _ => F9); (rename News _ _ _ _ => N9)
        exact ret _ _ _ _ _ (Keeps.leave (by assumption) F9) (by assumption) (Keeps.none (by assumption) (N9 _ (.head _)).2.2) (N9 _ (.head _)).1)
  case inr.inr =>
    walk_at "MY enterC"
    (rename Fr _ _ _ _ => F0)
    have F1 : Fr _ _ _ (fun (y : Str) => if y = "way" then some (.bytes (ordB low) t3) else none) := F0
    clear F0
    k_steps
    unfold Stop
    (rename Fr _ _ _ _ => F9); (rename News _ _ _ _ => N9)
    refine Assign_range (as := []) (Inv := fun σ => σ = []) (R := fun i y => ∃ t, y = .int (octF x 4 i) t) (fun n => n = 4) rfl F9 N9 rfl (by simp) (fun n e => by omega) (by with_unfolding_all rfl) (by with_unfolding_all rfl) (by decide) (by rfl) (by decide) (by rfl) (by rfl) (by rfl) ?h4 ?turn4 ?fin4
    case h4 =>
      k_steps
      exact ⟨_, 4, _, _, _, _, _, [], rfl, rfl, by assumption, by assumption, rfl, rfl, rfl, by assumption⟩
    case turn4 =>
      intro i n t C oC m₂ h tk E' σ hn hi hI ha hC hx F N ne
      subst hn
      subst hI
      simp only [List.nil_append] at N
      obtain rfl | rfl | rfl | rfl : i = 0 ∨ i = 1 ∨ i = 2 ∨ i = 3 := by omega
      all_goals k_steps
      all_goals exact ⟨[], _, _, rfl, by (first | exact Keeps.refl | exact Keeps.of (by assumption)), rfl, by simp, rfl, _, rfl⟩
    case fin4 =>
      intro D ys σ h tk hl hy hI ha F N off
      subst hI
      simp only [List.nil_append] at N
      have hi := ints_of hy
      rw [hl] at hi
      clear F9 N9
      cases low
      all_goals first | rw [ordF] at F | rw [ordT] at F
      all_goals (
        k_steps
        (rename Fr _ _ _ _ => F9); (rename News _ _ _ _ => N9)
        exact ret _ _ _ _ _ (Keeps.leave (by assumption) F9) (by assumption) (Keeps.none (by assumption) (N9 _ (.head _)).2.2) (N9 _ (.head _)).1)
end
def chrS (k : Int) : Str := ⟨#[k.toNat]⟩
def signsT (ns : List Int) : Str := PySem.Txt.join (Str.ofString "") (ns.map chrS)
theorem chrS_sum : ∀ ns : List Int, ((ns.map chrS).map (·.length)).sum = ns.length
  | [] => rfl
  | _ :: ns => by
    have := chrS_sum ns
    simp only [List.map_cons, List.sum_cons, List.length_cons, this]
    show 1 + ns.length = _
    omega
theorem strs_of {f : Nat → Int} {ys : List Value} : (∀ k y, ys[k]? = some y → ∃ t, y = Value.str (chrS (f k)) t) → StrsAre ys (((List.range ys.length).map f).map chrS) := by
  induction ys generalizing f with
  | nil => intro _; exact .nil
  | cons y ys ih =>
    intro h
    obtain ⟨t, rfl⟩ := h 0 _ rfl
    rw [List.length_cons, List.range_succ_eq_map, List.map_cons, List.map_cons, List.map_map (f := Nat.succ) (g := f)]
    exact .cons _ _ (ih (f := f ∘ Nat.succ) fun k y hk => h (k + 1) y hk)
theorem range_getD (ns : List Int) : (List.range ns.length).map (fun k => ns.getD k 0) = ns := by
  apply List.ext_getElem
  · simp
  · intro i h1 h2
    simp [h2]
section
variable {prog : Program} {w : World} {A : Around} {E : Value → Shared → Prop} {s : Shared}
theorem join_signs {D : Addr} {ys : List Value} {ns : List Int} {t : Tok} {Q : Value → Shared → Prop} (hl : s.heap.IsList D ys.toArray) (hj : StrsAre ys (ns.map chrS)) (hn : ns.length ≤ 1000)
    (h : ∀ t' k, Q (.str (signsT ns) t') { s with toks := k }) : wpAny (model prog w) A (call (.builtin "str.join") [.str (Str.ofString "") t, .ref D]) Q E s :=
  join_listW hl hj (by decide) (by rw [chrS_sum, List.length_map]; omega) h
end
local macro_rules | `(tactic| walk_at "call builtin:str.join") => `(tactic| (k_here; (refine' join_signs ?myl ?myj ?myn ?_; (case myl => is_list); (case myj => assumption); (case myn => assumption)); intro t' k'))
section
variable {w : World} {mean : ExcName → Option Value} {mg mb : Str → Option Value} {dp un : Nat} {gd : Option (List Code)} {base h₀ : Heap} {outer : List Env} {env : Env} {L : Addr} {m : Str → Option Value} {s : Shared}
  {news : List (Addr × Obj)} {Q : Value → Shared → Prop} {E : Value → Shared → Prop}
theorem text_ok {B : Array UInt8} {bs : List Int} {O : Value} {pt p1 p2 p3 : Tok} {pa n : Int} {ts rs : List Int} (S : Site w mean mg mb dp un base h₀ outer env L m s.heap 20) (hB : KBw.bInts B = bs) (h0 : 0 ≤ pa) (h1 : 0 ≤ n) (hn : pa + n ≤ (bs.length : Int)) (h2 : bs.length < 500)
    (hz : (bs.drop pa.toNat).take n.toNat = ts ++ 0 :: rs) (hz' : ∀ k ∈ ts, k ≠ 0)
    (ret : ∀ t h' tk', Keeps [] s.heap h' → Q (.str (signsT ts) t) { s with heap := h', toks := tk' }) :
    wpAny (model Prg w) (Ar dp un gd env outer) (call (.ref 86) [.bytes B pt, .int pa p1, .int 2 p2, .int n p3, O]) Q E s := by
  have hc1 := clip_pos bs.length h0
  have hc2 := clip_pos bs.length (show 0 ≤ pa + n by omega)
  have hcut : (bs.drop (clipAt bs.length pa)).take (clipAt bs.length (pa + n) - clipAt bs.length pa) = ts ++ 0 :: rs := by
    rw [hc1, hc2, show min pa.toNat bs.length = pa.toNat by omega, show min (pa + n).toNat bs.length - pa.toNat = n.toNat by omega]
    exact hz
  have hfz : findZ (KBy.picked B (some pa) (some (pa + n))) = (ts.length : Int) := by
    refine findZ_some (ks := ts ++ 0 :: rs) ((KBc.ints_picked hB _ _).trans hcut) (by simp) (fun i hi => ?_) (by simp)
    rw [List.getD_eq_getElem?_getD, List.getElem?_append_left hi, List.getElem?_eq_getElem hi]
    exact hz' _ (List.getElem_mem hi)
  have hbb : KBw.bInts (KBy.picked (KBy.picked B (some pa) (some (pa + n))) none (some (findZ (KBy.picked B (some pa) (some (pa + n)))))) = ts := by
    rw [KBc.ints_picked ((KBc.ints_picked hB (some pa) (some (pa + n))).trans hcut), hfz]
    show ((ts ++ 0 :: rs).drop 0).take (clipAt (ts ++ 0 :: rs).length (ts.length : Int) - 0) = ts
    rw [clipAt_nat, List.drop_zero, Nat.sub_zero, show min ts.length (ts ++ 0 :: rs).length = ts.length by simp]
    simp
  have hts : ts.length ≤ 500 := by
    have := congrArg List.length hz
    simp only [List.length_take, List.length_drop, List.length_append, List.length_cons] at this
    omega
  walk_at "MY enterC"
  (rename Fr _ _ _ _ => F0)
  have F1 : Fr _ _ _ (fun (y : Str) => if y = "many" then some (.int n p3) else none) := F0
  clear F0
  k_steps
  unfold Stop
  (rename Fr _ _ _ _ => F9); (rename News _ _ _ _ => N9)
  refine eval_bytes (bb := KBy.picked (KBy.picked B (some pa) (some (pa + n))) none (some (findZ (KBy.picked B (some pa) (some (pa + n)))))) (R := fun i y => ∃ t, y = .str (chrS (ts.getD i 0)) t) rfl F9 N9 (by with_unfolding_all rfl) (by decide) (by rfl) (by decide) (by rfl) (by rw [← KBw.ints_length, hbb]; omega) ?h ?turn ?fin
  case h =>
    k_steps
    all_goals assumption
  case turn =>
    intro i c u C oC m₂ h tk E' hc hC hx F N
    have hcl := c.toNat_lt
    have e := KBw.ints_get hc
    rw [hbb] at e
    have e' : ts.getD i 0 = (c.toNat : Int) := by rw [List.getD_eq_getElem?_getD, e]; rfl
    k_steps
    refine ⟨[], _, _, rfl, by (first | exact Keeps.refl | exact Keeps.of (by assumption)), rfl, by simp, rfl, tk, ?_⟩
    rw [e']
    rfl
  case fin =>
    intro D ys h tk hl hy F N off
    have hj := strs_of hy
    rw [hl, ← KBw.ints_length, hbb, range_getD] at hj
    have hts' : ts.length ≤ 1000 := by omega
    k_steps
    exact ret _ _ _ (Keeps.leave (by assumption) F)
end
section
variable {w : World} {mean : ExcName → Option Value} {mg mb : Str → Option Value} {dp un : Nat} {gd : Option (List Code)} {base h₀ : Heap} {outer : List Env} {env : Env} {L : Addr} {m : Str → Option Value} {s : Shared}
  {news : List (Addr × Obj)} {nf : Obj → List (Addr × Obj)} {Q : Value → Shared → Prop} {E : Value → Shared → Prop}
theorem News.made {h h' : Heap} {D : Addr} {o : Obj} (F : Fr h₀ L h m) (N : News h₀ L h news) (k : Keeps [] h h') (hD : h.get? D = none) (ho : h'.get? D = some o) : News h₀ L h' ((D, o) :: news) := fun p hp => by
  rcases List.mem_cons.mp hp with rfl | hp
  · refine ⟨ho, fun q => ?_, ?_⟩
    · obtain ⟨oL, _, _, hL, _⟩ := F.ns
      have q' : D = L := q
      rw [← q', hD] at hL; cases hL
    · cases z : h₀.get? D with
      | none => rfl
      | some x => have := F.keep _ _ z; rw [hD] at this; cases this
  · exact N.grown k.all p hp
theorem octets_okK {x sz : Int} {t1 t2 t3 : Tok} {low : Bool} (S : Site w mean mg mb dp un base h₀ outer env L m s.heap 8) (N : News h₀ L s.heap news) (hz : sz = 1 ∨ sz = 2 ∨ sz = 4)
    (ret : ∀ D ys n h' tk', Fr h₀ L h' m → News h₀ L h' ((D, listOf ys.toArray n) :: news) → (∀ p ∈ news, @Ne Nat p.1 D) → IntsAre ys (octsF low x sz.toNat) → Q (.ref D) { s with heap := h', toks := tk' }) :
    wpAny (model Prg w) (Ar dp un gd env outer) (call (.ref 112) [.int x t1, .int sz t2, .bytes (ordB low) t3]) Q E s :=
  octets_ok S hz fun D ys n h' tk' k hi hD ho => ret D ys n h' tk' (S.F.keeps k.all) (News.made S.F N k hD ho) (fun p hp q => by
    have z := (N p hp).1
    have q' : p.1 = D := q
    rw [q', hD] at z; cases z) hi
def SrcOk (o : Obj) : Prop := ∃ a b ta tb, o = src a b ta tb 0 ∧ 0 ≤ a ∧ 0 ≤ b ∧ b < 2147483647
theorem take_okS {Sa : Addr} {o : Obj} {top : Int} {p1 : Tok} (S : Site w mean mg mb dp un base h₀ outer env L m s.heap 4) (N : News h₀ L s.heap news) (U : UpdF Sa o news nf) (ho : SrcOk o) (ht : 0 < top) (ht2 : top ≤ 4294967296)
    (ret : ∀ d t o' h' tk', 0 ≤ d → d < top → SrcOk o' → Fr h₀ L h' m → News h₀ L h' (nf o') → Q (.int d t) { s with heap := h', toks := tk' }) :
    wpAny (model Prg w) (Ar dp un gd env outer) (call (.ref 100) [.ref Sa, .int top p1]) Q E s := by
  obtain ⟨a, b, ta, tb, rfl, ha, hb0, hb⟩ := ho
  exact take_ok S N U ha hb0 hb ht ht2 fun d t a' b' ta' tb' h' tk' x1 x2 x3 x4 x5 => ret d t _ h' tk' x1 x2 ⟨a', b', ta', tb', rfl, x3, x4, x5⟩
theorem one_okS {Sa T : Addr} {o : Obj} {k : Nat} {its : Array Value} (S : Site w mean mg mb dp un base h₀ outer env L m s.heap 8) (N : News h₀ L s.heap news) (U : UpdF Sa o news nf) (hm : (T, listOf its k) ∈ news) (ne : @Ne Nat T Sa) (ho : SrcOk o) (ht : 0 < its.size) (ht2 : its.size ≤ 100)
    (ret : ∀ i o' h' tk', i < its.size → SrcOk o' → Fr h₀ L h' m → News h₀ L h' (nf o') → Q (its.toList.getD i .none) { s with heap := h', toks := tk' }) :
    wpAny (model Prg w) (Ar dp un gd env outer) (call (.ref 107) [.ref Sa, .ref T]) Q E s := by
  obtain ⟨a, b, ta, tb, rfl, ha, hb0, hb⟩ := ho
  have hSa := News.own N U
  refine one0 (T := T) (its := its) (k := k) (ta := ta) (tb := tb) S ne (fun p hp => ?_) ha hb0 hb ht ht2 fun i a' b' ta' tb' h' tk' x1 x2 x3 x4 kk hg => ret i _ h' tk' x1 ⟨a', b', ta', tb', rfl, x2, x3, x4⟩ (Fr.mut S.F N U kk) (News.mut N U kk hg)
  rcases List.mem_cons.mp hp with rfl | hp
  · exact hSa _ (.head _)
  · rw [List.mem_singleton.mp hp]; exact N _ hm
end
local macro_rules | `(tactic| walk_at "call ref") => `(tactic| (k_here; (with_reducible show wpAny _ _ (call (Value.ref 100) _) _ _ _); k_dflt (refine' take_okS ?S ?N ?U ?a0 ?t0 ?t1 ?_; (case S => walk_at "MY site"); (case N => k_asm); (case U => k_updF); (case a0 => assumption); (case t0 => first | omega | decide); (case t1 => first | omega | decide)); intro d' t' o' h' tk' d0' d1' a0' F' N'; (try dsimp only at N'); (try k_sweep); (try dsimp only)))
local macro_rules | `(tactic| walk_at "call ref") => `(tactic| (k_here; (with_reducible show wpAny _ _ (call (Value.ref 107) _) _ _ _); k_dflt (refine' one_okS ?S ?N ?U ?m ?ne ?a0 ?t0 ?t1 ?_; (case S => walk_at "MY site"); (case N => k_asm); (case U => k_updF); (case m => k_mem); (case ne => k_ne); (case a0 => assumption); (case t0 => exact Nat.le_of_ble_eq_true rfl); (case t1 => exact Nat.le_of_ble_eq_true rfl)); intro i' o' h' tk' i0' a0' F' N'; (try dsimp only at N'); (try k_sweep); (try dsimp only); (try simp only [List.size_toArray, List.length_cons, List.length_nil, Nat.zero_add, Nat.reduceAdd] at i0')))
local macro_rules | `(tactic| walk_at "call ref") => `(tactic| (k_here; (with_reducible show wpAny _ _ (call (Value.ref 112) _) _ _ _); k_dflt (refine' octets_okK ?S ?N ?z ?_; (case S => walk_at "MY site"); (case N => k_asm); (case z => first | decide | assumption)); intro D' ys' n' h' tk' F' N' ne' i'; (try k_sweep); (try dsimp only)))
example : True := by w_top off; trivial
section
section
variable {prog : Program} {w : World} {A : Around} {E : Value → Shared → Prop} {s : Shared} {t u : Tok} {Q : Value → Shared → Prop}
theorem pow8 (h : Q (.int 256 s.toks) { s with toks := s.toks + 1 }) : wpAny (model prog w) A (binaryOp .Pow (.int 2 t) (.int 8 u)) Q E s :=
  pow_int_small (by decide) (by decide) (by decide) (by rw [show (2 : Int) ^ (8 : Int).toNat = 256 from rfl]; exact h)
theorem pow16 (h : Q (.int 65536 s.toks) { s with toks := s.toks + 1 }) : wpAny (model prog w) A (binaryOp .Pow (.int 2 t) (.int 16 u)) Q E s :=
  pow_int_small (by decide) (by decide) (by decide) (by rw [show (2 : Int) ^ (16 : Int).toNat = 65536 from by decide]; exact h)
theorem pow31 (h : Q (.int 2147483648 s.toks) { s with toks := s.toks + 1 }) : wpAny (model prog w) A (binaryOp .Pow (.int 2 t) (.int 31 u)) Q E s :=
  pow_int_small (by decide) (by decide) (by decide) (by rw [show (2 : Int) ^ (31 : Int).toNat = 2147483648 from by decide]; exact h)
theorem pow32 (h : Q (.int 4294967296 s.toks) { s with toks := s.toks + 1 }) : wpAny (model prog w) A (binaryOp .Pow (.int 2 t) (.int 32 u)) Q E s :=
  pow_int_small (by decide) (by decide) (by decide) (by rw [show (2 : Int) ^ (32 : Int).toNat = 4294967296 from by decide]; exact h)
end
local macro_rules | `(tactic| walk_at "binaryOp Pow int int") => `(tactic| (k_here; first | (with_reducible refine pow8 ?_) | (with_reducible refine pow16 ?_) | (with_reducible refine pow31 ?_) | (with_reducible refine pow32 ?_)))
section
variable {prog : Program} {w : World} {A : Around} {E : Value → Shared → Prop} {s : Shared} {h₀ : Heap} {L d : Addr} {news : List (Addr × Obj)} {o : Obj} {K : Type} [DecidableEq K] {knd : KeyKind prog w K} {kvs : List (K × Value)} {k : K} {v key : Value}
theorem shown_item {value slice : PySem.Expr} {Q : Value → Shared → Prop} (N : News h₀ L s.heap news) (hp : (d, o) ∈ news) (hd : o.IsDictOf knd kvs) (hkey : knd.is k key = true) (hl : valueAt kvs k = some v) (h : Q v { s with toks := s.toks + 1 })
    (hs : subscripted slice false (.ref d) key = operate [.ref d, key] (getItem (.ref d) key) := by with_unfolding_all rfl) :
    wpAny (model prog w) A (subscriptTail value slice (.ref d) key) Q E s :=
  have hD := kda_dict N hp hd
  subscriptTail_builtinR hD.typeIs slot_dict_getitem.lookup (wpAny_getItem_of (Q := fun r s' => r = v ∧ Q r s') hkey hD.mapOf hl ⟨rfl, h⟩) hs
end
local macro_rules | `(tactic| walk_at "subscriptTail") => `(tactic| (k_here; (with_reducible show wpAny _ _ (subscriptTail (Expr.Dict _ _ _) _ (Value.ref _) (Value.int _ _)) _ _ _); k_dflt (refine' shown_item (knd := PySem.intKind _ _) ?myN ?mym ?myd ?myk ?myv ?_ ?mys; (case myN => k_asm); (case mym => exact .head _); (case myd => assumption); (case myk => exact intKind_is _ _ _ _); (case myv => rfl); (case mys => with_unfolding_all rfl)); (try dsimp only)))
section
variable {M : Model} {A : Around} {E : Value → Shared → Prop} {s : Shared} {Q : Value → Shared → Prop} {y : Value} {i : Nat} {x0 x1 x2 x3 x4 x5 top : Int} {t0 t1 t2 t3 t4 t5 : Tok}
theorem pick_sub (hi : i < 6) (h5 : 0 ≤ x5) (h5' : x5 < top) (h0 : 0 ≤ x0 ∧ x0 < top) (h1 : 0 ≤ x1 ∧ x1 < top) (h2 : 0 ≤ x2 ∧ x2 < top) (h3 : 0 ≤ x3 ∧ x3 < top) (h4 : 0 ≤ x4 ∧ x4 < top)
    (h : ∀ v t, 0 ≤ v → v < top → wpAny M A (binaryOp .Sub (.int v t) y) Q E s) :
    wpAny M A (binaryOp .Sub ([Value.int x0 t0, Value.int x1 t1, Value.int x2 t2, Value.int x3 t3, Value.int x4 t4, Value.int x5 t5].getD i .none) y) Q E s := by
  obtain rfl | rfl | rfl | rfl | rfl | rfl : i = 0 ∨ i = 1 ∨ i = 2 ∨ i = 3 ∨ i = 4 ∨ i = 5 := by omega
  · exact h _ _ h0.1 h0.2
  · exact h _ _ h1.1 h1.2
  · exact h _ _ h2.1 h2.2
  · exact h _ _ h3.1 h3.2
  · exact h _ _ h4.1 h4.2
  · exact h _ _ h5 h5'
end
section
variable {w : World} {mean : ExcName → Option Value} {mg mb : Str → Option Value} {dp un : Nat} {gd : Option (List Code)} {base h₀ : Heap} {outer : List Env} {env : Env} {L : Addr} {m : Str → Option Value} {s : Shared}
  {news : List (Addr × Obj)} {nf : Obj → List (Addr × Obj)} {Q : Value → Shared → Prop} {E : Value → Shared → Prop}
def topF (k : Int) : Int := if k = 1 ∨ k = 7 then 256 else if k = 3 then 65536 else 4294967296
def lowF (k : Int) : Int := if k = 9 ∨ k = 10 then 2147483648 else 0
theorem topF_ok {k : Int} : 256 ≤ topF k ∧ topF k ≤ 4294967296 := by
  unfold topF
  split
  · decide
  · split <;> decide
theorem half_ok {x : Int} (h : 256 ≤ x) : 0 ≤ x.fdiv 2 ∧ x.fdiv 2 < x ∧ 0 ≤ x.fdiv 2 - 1 ∧ x.fdiv 2 - 1 < x := by
  rw [Int.fdiv_eq_ediv_of_nonneg _ (by decide)]
  omega
theorem lowF_pos {k : Int} (h : (List.any [9, 10] fun x => x == k) = true) : lowF k = 2147483648 := by
  simp at h
  unfold lowF
  rw [if_pos (by omega)]
theorem lowF_neg {k : Int} (h : (List.any [9, 10] fun x => x == k) = false) : lowF k = 0 := by
  simp at h
  unfold lowF
  rw [if_neg (by omega)]
theorem shown_top {prog : Program} {A : Around} {d : Addr} {o : Obj} {kvs : List (Int × Value)} {k : Int} {t : Tok} {t1 t3 t4 t5 t7 t9 t10 : Tok} {value slice : PySem.Expr} (N : News h₀ L s.heap news) (hp : (d, o) ∈ news) (hd : o.IsDictOf (PySem.intKind prog w) kvs) (hk : K7 k) (hv : kvs = [(1, .int 256 t1), (3, .int 65536 t3), (4, .int 4294967296 t4), (5, .int 4294967296 t5), (7, .int 256 t7), (9, .int 4294967296 t9), (10, .int 4294967296 t10)])
    (h : ∀ t, Q (.int (topF k) t) { s with toks := s.toks + 1 })
    (hs : subscripted slice false (.ref d) (.int k t) = operate [.ref d, .int k t] (getItem (.ref d) (.int k t)) := by with_unfolding_all rfl) :
    wpAny (model prog w) A (subscriptTail value slice (.ref d) (.int k t)) Q E s := by
  have z : ∃ t, valueAt kvs k = some (.int (topF k) t) := by
    subst hv
    rcases hk with rfl | rfl | rfl | rfl | rfl | rfl | rfl <;> exact ⟨_, rfl⟩
  obtain ⟨t', z⟩ := z
  exact shown_item (knd := PySem.intKind _ _) N hp hd (intKind_is _ _ _ _) z (h t') hs
local macro_rules | `(tactic| walk_at "subscriptTail") => `(tactic| (k_here; (with_reducible show wpAny _ _ (subscriptTail (Expr.Dict _ _ _) _ (Value.ref _) (Value.int _ _)) _ _ _); k_dflt (refine' shown_top ?myN ?mym ?myd ?myk ?myv ?_ ?mys; (case myN => k_asm); (case mym => exact .head _); (case myd => assumption); (case myk => assumption); (case myv => rfl); (case mys => with_unfolding_all rfl)); intro t'; (try dsimp only)))
def LowEnd (g : Heap) (L : Addr) (m : Str → Option Value) (news : List (Addr × Obj)) (s : Shared) (k : Int) (fl : Flow) (s' : Shared) : Prop := fl = .next ∧ ∃ h tk t, s' = { s with heap := h, toks := tk } ∧ Fr g L h (fun (y : Str) => if y = "low" then some (.int (lowF k) t) else m y) ∧ News g L h news
theorem LowEnd.intro {g h : Heap} {L : Addr} {m : Str → Option Value} {news : List (Addr × Obj)} {s : Shared} {tk : Nat} {k v : Int} {t : Tok} (e : lowF k = v) (F : Fr g L h (fun (y : Str) => if y = "low" then some (.int v t) else m y)) (N : News g L h news) : LowEnd g L m news s k .next { s with heap := h, toks := tk } := ⟨rfl, h, tk, t, rfl, e ▸ F, N⟩
theorem low_cut {prog : Program} {A : Around} {st : Stmt} {Q : Flow → Shared → Prop} {g : Heap} {k : Int} (F : Fr g L s.heap m) (N : News g L s.heap news)
    (h : wpAny (model prog w) A (exec st env) (LowEnd g L m news s k) E s) (c : ∀ h tk t, Fr g L h (fun (y : Str) => if y = "low" then some (.int (lowF k) t) else m y) → News g L h news → Q .next { s with heap := h, toks := tk }) : wpAny (model prog w) A (exec st env) Q E s :=
  wpAny_mono h (fun fl s' hq => by
    obtain ⟨rfl, h, tk, t, rfl, F', N'⟩ := hq
    exact c h tk t F' N') fun _ _ e => e
local macro_rules | `(tactic| walk_at "exec Assign cons IfExp") => `(tactic| (k_here; refine stop_in ?_))
theorem drawn0 {Sa : Addr} {o : Obj} {k : Int} {p1 : Tok} (S : Site w mean mg mb dp un base h₀ outer env L m s.heap 12) (N : News h₀ L s.heap [(Sa, o)]) (ho : SrcOk o) (hk : K7 k)
    (ret : ∀ d t o' h' tk', 0 ≤ d + lowF k → d + lowF k < topF k → SrcOk o' → Keeps [Sa] s.heap h' → h'.get? Sa = some o' → Q (.int d t) { s with heap := h', toks := tk' }) :
    wpAny (model Prg w) (Ar dp un gd env outer) (call (.ref 119) [.ref Sa, .int k p1]) Q E s := by
  obtain ⟨ht0, ht1⟩ := topF_ok (k := k)
  obtain ⟨hh0, hh1, hh2, hh3⟩ := half_ok ht0
  walk_at "MY enter"
  k_steps
  unfold Stop
  (rename Fr _ _ _ _ => F8); (rename News _ _ _ _ => N8)
  refine low_cut (k := k) F8 N8 ?first ?second
  case first =>
    refine wpAny_Assign_Name ?_
    k_steps
    all_goals (
      (rename Fr _ _ _ _ => F9); (rename News _ _ _ _ => N9); (rename List.any _ _ = _ => A9)
      first | exact LowEnd.intro (lowF_pos A9) F9 (News.tail' N9) | exact LowEnd.intro (lowF_neg A9) F9 (News.tail' N9))
  case second =>
    intro h tk t F7 N7
    clear F8 N8
    k_steps
    refine pick_sub (by assumption) (by assumption) (by assumption) (by omega) (by omega) (by omega) (by omega) (by omega) fun v t v0 v1 => ?_
    k_steps
    (rename Fr _ _ _ _ => F9); (rename News _ _ _ _ => N9)
    refine ret _ _ _ _ _ ?_ ?_ (by assumption) (Keeps.leave (by assumption) F9) (N9 _ (.tail _ (.tail _ (.head _)))).1
    · omega
    · omega
theorem drawn_okS {Sa : Addr} {o : Obj} {k : Int} {p1 : Tok} (S : Site w mean mg mb dp un base h₀ outer env L m s.heap 12) (N : News h₀ L s.heap news) (U : UpdF Sa o news nf) (ho : SrcOk o) (hk : K7 k)
    (ret : ∀ d t o' h' tk', 0 ≤ d + lowF k → d + lowF k < topF k → SrcOk o' → Fr h₀ L h' m → News h₀ L h' (nf o') → Q (.int d t) { s with heap := h', toks := tk' }) :
    wpAny (model Prg w) (Ar dp un gd env outer) (call (.ref 119) [.ref Sa, .int k p1]) Q E s :=
  drawn0 S (News.own N U) ho hk fun d t o' h' tk' a b c kk hg => ret d t o' h' tk' a b c (Fr.mut S.F N U kk) (News.mut N U kk hg)
end
end
example {prog : Program} {w : World} {A : Around} {E : Value → Shared → Prop} {s : Shared} {env : Env} {Q : Flow → Shared → Prop} (h : Q .next s) : wpAny (model prog w) A (execs [] env) Q E s := by walk1; assumption
local macro_rules | `(tactic| walk_at "binaryOp Pow int int") => `(tactic| (k_here; first | (with_reducible refine pow8 ?_) | (with_reducible refine pow16 ?_) | (with_reducible refine pow31 ?_) | (with_reducible refine pow32 ?_)))
local macro_rules | `(tactic| walk_at "subscriptTail") => `(tactic| (k_here; (with_reducible show wpAny _ _ (subscriptTail (Expr.Dict _ _ _) _ (Value.ref _) (Value.int _ _)) _ _ _); k_dflt (refine' shown_item (knd := PySem.intKind _ _) ?myN ?mym ?myd ?myk ?myv ?_ ?mys; (case myN => k_asm); (case mym => exact .head _); (case myd => assumption); (case myk => exact intKind_is _ _ _ _); (case myv => rfl); (case mys => with_unfolding_all rfl)); (try dsimp only)))
local macro_rules | `(tactic| walk_at "call ref") => `(tactic| (k_here; (with_reducible show wpAny _ _ (call (Value.ref 119) _) _ _ _); k_dflt (refine' drawn_okS ?S ?N ?U ?a0 ?kk ?_; (case S => walk_at "MY site"); (case N => k_asm); (case U => k_updF); (case a0 => assumption); (case kk => first | assumption | (unfold K7; omega))); intro d' t' o' h' tk' d0' d1' a0' F' N'; (try dsimp only at N'); (try k_sweep); (try dsimp only)))
example : True := by w_top off; trivial
def Refuses (w : World) (mean : ExcName → Option Value) (mg mb : Str → Option Value) (bs : List Int) (pa k n : Int) (O : Value) : Prop :=
  ∀ (dp un : Nat) (gd : Option (List Code)) (base h₀ : Heap) (outer : List Env) (env : Env) (L : Addr) (m : Str → Option Value) (s : Shared) (Q E : Value → Shared → Prop) (B : Array UInt8) (pt p1 p2 p3 : Tok),
    Site w mean mg mb dp un base h₀ outer env L m s.heap 20 → KBw.bInts B = bs → (∀ h' tk' e, Fly s.heap (env :: outer) e h' → E (.ref e) { s with heap := h', toks := tk' }) →
      wpAny (model Prg w) (Ar dp un gd env outer) (call (.ref 86) [.bytes B pt, .int pa p1, .int k p2, .int n p3, O]) Q E s
theorem refuses_use {w : World} {mean : ExcName → Option Value} {mg mb : Str → Option Value} {bs : List Int} {pa k n : Int} {O : Value} (R : Refuses w mean mg mb bs pa k n O) {dp un : Nat} {gd : Option (List Code)} {base h₀ : Heap} {outer : List Env} {env : Env} {L : Addr} {m : Str → Option Value} {s : Shared} {Q E : Value → Shared → Prop} {B : Array UInt8} {pt p1 p2 p3 : Tok}
    (S : Site w mean mg mb dp un base h₀ outer env L m s.heap 20) (hB : KBw.bInts B = bs) (exc : ∀ h' tk' e, Fly s.heap (env :: outer) e h' → E (.ref e) { s with heap := h', toks := tk' }) :
    wpAny (model Prg w) (Ar dp un gd env outer) (call (.ref 86) [.bytes B pt, .int pa p1, .int k p2, .int n p3, O]) Q E s := R dp un gd base h₀ outer env L m s Q E B pt p1 p2 p3 S hB exc
theorem refuses_values {w : World} {mean : ExcName → Option Value} {mg mb : Str → Option Value} {bs : List Int} {pa k : Int} {n : Nat} {low : Bool} {p4 : Tok} (hk : K7 k) (h0 : 0 ≤ pa) (hn0 : 1 ≤ n) (h1 : pa + n * usz k = (bs.length : Int) + 1) (h2 : bs.length < 400) (hn : n ≤ 100) :
    Refuses w mean mg mb bs pa k n (.bytes (ordB low) p4) := fun _ _ _ _ _ _ _ _ _ _ _ _ _ _ _ _ _ S hB exc => values_bad S hB hk h0 hn0 h1 h2 hn exc
theorem refuses_text1 {w : World} {mean : ExcName → Option Value} {mg mb : Str → Option Value} {bs : List Int} {pa n : Int} {O : Value} (h0 : 0 ≤ pa) (h1 : pa ≤ (bs.length : Int)) (hn : (bs.length : Int) < pa + n) (h2 : bs.length < 500) (hn' : n < 500) :
    Refuses w mean mg mb bs pa 2 n O := fun _ _ _ _ _ _ _ _ _ _ _ _ _ _ _ _ _ S hB exc => text_bad1 S hB h0 h1 hn h2 hn' exc
theorem refuses_text2 {w : World} {mean : ExcName → Option Value} {mg mb : Str → Option Value} {bs : List Int} {pa n : Int} {O : Value} (h0 : 0 ≤ pa) (h1 : 0 ≤ n) (hn : pa + n ≤ (bs.length : Int)) (h2 : bs.length < 500) (hz : ∀ k ∈ (bs.drop pa.toNat).take n.toNat, k ≠ 0) :
    Refuses w mean mg mb bs pa 2 n O := fun _ _ _ _ _ _ _ _ _ _ _ _ _ _ _ _ _ S hB exc => text_bad2 S hB h0 h1 hn h2 hz exc
local macro_rules | `(tactic| walk_at "call ref") => `(tactic| (k_here; (with_reducible show wpAny _ _ (call (Value.ref 86) _) _ _ _); k_dflt (refine' refuses_use ?R ?S ?B ?_; (case R => assumption); (case S => walk_at "MY site"); (case B => assumption)); intro h' tk' e' x'; (try dsimp only)))
theorem frames_off {base h : Heap} : ∀ {l : List Env}, h.FunFrames base l → ∀ b ∈ fsOf l, base.get? b = none
  | [], _, b, hb => by simp at hb
  | env :: l, ⟨hk, ⟨L, o, hf, hn, ho, hd⟩, hr⟩, b, hb => by
    rcases List.mem_filterMap.mp hb with ⟨env', he', hf'⟩
    rcases List.mem_cons.mp he' with rfl | he'
    · rw [hf] at hf'
      cases hf'
      exact hn
    · exact frames_off hr b (List.mem_filterMap.mpr ⟨env', he', hf'⟩)
section
variable {w : World} {A : Around} {E : Value → Shared → Prop} {s' : Shared} {base g hc : Heap} {l : List Env} {L' a e : Addr} {m' : Str → Option Value} {name : Str} {scope : Scope} {cd : Value} {mean : ExcName → Option Value} {mg mb : Str → Option Value}
theorem base_stays (B : Below A base l g) (F : Fr g L' hc m') : base.StaysIn (hideAll hc (fsOf (envOf name scope L' a cd :: l))) := fun b o q => by
  have hg := B.stays b o q
  refine hideAll_get _ (F.keep b o hg) fun hb => ?_
  rcases List.mem_filterMap.mp hb with ⟨env', he', hf'⟩
  rcases List.mem_cons.mp he' with rfl | he'
  · have : L' = b := Option.some.inj hf'
    rw [← this, kts_self F] at hg
    cases hg
  · rw [frames_off B.frames b (List.mem_filterMap.mpr ⟨env', he', hf'⟩)] at q
    cases q
theorem caught44 {b₀ : Stmt} {suite : List Stmt} {pos np : Pos} {rest : List ExceptHandler} {Q : Flow → Shared → Prop} (x : Fly hc (envOf name scope L' a cd :: l) e s'.heap) (F : Fr g L' hc m') (B : Below A base l g) (X : (hd.heap_39 w.params).In base) (T : Top hd.view_39 (looseW hd.view_39 []) mean mg mb base)
    (k : ∀ h', (hideAll hc (fsOf (envOf name scope L' a cd :: l))).StaysIn h' → hc.UpToSlots h' → wpAny (model Prg w) ((A.deeper (envOf name scope L' a cd)).mark (some (.ref e))) (execs (b₀ :: suite) (envOf name scope L' a cd)) Q E { s' with heap := h' })
    (hk : scope.kind = .function := by rfl) (hx : (envOf name scope L' a cd).kindOf "SegmentError" = some .globalImplicit := by rfl)
    (hE : PassesOwnAt (model Prg w) ((A.deeper (envOf name scope L' a cd)).mark (some (.ref e))) (A.deeper (envOf name scope L' a cd)) (envOf name scope L' a cd) E := by passes_own) :
    wpAny (model Prg w) (A.deeper (envOf name scope L' a cd)) (noteFrame (.ref e) (envOf name scope L' a cd))
      (fun _ s₂ => wpAny (model Prg w) (A.deeper (envOf name scope L' a cd)) (setFlight (.ref e) none) (fun _ s₃ =>
        wpAny (model Prg w) (A.deeper (envOf name scope L' a cd)) (handleBy (.ref e) (envOf name scope L' a cd) (.ExceptHandler (some (.Name "SegmentError" np)) none (b₀ :: suite) pos :: rest)) Q E s₃) E s₂) E s' := by
  obtain ⟨⟨a0, hfl⟩, hsm⟩ := x
  have hbs := base_stays (name := name) (scope := scope) (a := a) (cd := cd) B F
  have XH : (hd.heap_39 w.params).In (hideAll g (fsOf l)) := X.keeps fun b o q => hideAll_get _ (B.stays b o q) fun hb => by
    rw [frames_off B.frames b hb] at q; cases q
  have TH := T.keeps (h' := hideAll g (fsOf l)) fun b o q => hideAll_get _ (B.stays b o q) fun hb => by
    rw [frames_off B.frames b hb] at q; cases q
  have hHs : (hideAll g (fsOf l)).StaysIn (hideAll hc (fsOf (envOf name scope L' a cd :: l))) := hide_stays (fun b o q => F.keep b o q) fun b hb => by
    rcases List.mem_filterMap.mp hb with ⟨env', he', hf'⟩
    rcases List.mem_cons.mp he' with rfl | he'
    · right
      have : L' = b := Option.some.inj hf'
      rw [← this]; exact kts_self F
    · exact .inl (List.mem_filterMap.mpr ⟨env', he', hf'⟩)
  have Fb : Fr (hideAll g (fsOf l)) L' hc m' := ⟨F.ns, fun b o q => F.keep b o (of_hideAll _ q), Nat.le_trans (Nat.le_of_eq (hideAll_size _ _)) F.above⟩
  refine wpAny_looks_onW (Around.frames_deeper B.stack) rfl hfl fun h₄ hheld₄ hsm₄ => ?_
  refine wpAny_landsW hheld₄ fun h₅ hheld hsm₅' => ?_
  have hsm₅ := hsm₄.trans hsm₅'
  have F₅ : Fr (hideAll g (fsOf l)) L' h₅ m' := Fb.of_stays (fun b o q => hheld.1 b o (hHs b o q)) (hsm.trans hsm₅)
  obtain ⟨ob, hob, hobc⟩ := hheld.there
  refine wpAny_handleBy_cons (codeAny_handlers_test (name_K (v := .ref 44) F₅ XH (topRead_of TH) (by k_is) ?_ hk hx (by decide))) (by intro q; cases q)
  refine wpAny_excMatches_sub_self (at44 (XH.keeps F₅.keep)) hob hobc (by rfl) (codeAny_handlers_suite ?_)
  refine lands_againW hheld fun h₆ hfl₆ hsm₆ => ?_
  exact wpAny_passesOwnAt hE (k h₆ hfl₆.1 ((hsm.trans hsm₅).trans hsm₆))
end
section
variable {w : World} {mean : ExcName → Option Value} {mg mb : Str → Option Value} {dp un : Nat} {gd : Option (List Code)} {base h₀ : Heap} {outer : List Env} {env : Env} {L : Addr} {m : Str → Option Value} {s : Shared}
  {news : List (Addr × Obj)} {nf : Obj → List (Addr × Obj)} {Q : Value → Shared → Prop} {E : Value → Shared → Prop}
theorem refused0 {Oc : Addr} {ys : List Value} {bs : List Int} {pa k n : Int} {O : Value} {p1 p2 p3 : Tok} (S : Site w mean mg mb dp un base h₀ outer env L m s.heap 24) (Xb : (hd.heap_39 w.params).In base) (Tb : Top hd.view_39 (looseW hd.view_39 []) mean mg mb base)
    (hL : s.heap.IsList Oc ys.toArray) (hi : IntsAre ys bs) (hb : ∀ k ∈ bs, 0 ≤ k ∧ k < 256) (hl : bs.length < 1000)
    (R : Refuses w mean mg mb bs pa k n O) (ret : ∀ h' tk', (hideAll s.heap (fsOf (env :: outer))).StaysIn h' → s.heap.UpToSlots h' → Q (.bool true) { s with heap := h', toks := tk' }) :
    wpAny (model Prg w) (Ar dp un gd env outer) (call (.ref 131) [.ref Oc, .int pa p1, .int k p2, .int n p3, O]) Q E s := by
  have hB : KBw.bInts (byteArr bs) = bs := KBa.ints_make hb
  walk_at "MY enter"
  (rename Keeps _ _ _ => K9); (rename Heap.StaysIn _ s.heap => gS9)
  have hLg : Heap.IsList _ Oc ys.toArray := (let ⟨o, ho, r⟩ := hL; ⟨o, K9.all _ _ ho, r⟩)
  k_steps
  (rename Fr _ _ _ _ => F9); (rename Below _ _ _ _ => B9)
  refine caught44 (by assumption) F9 B9 Xb Tb fun h' kk ks => ?_
  k_steps
  refine ret _ _ (fun b o q => ?_) ?_
  · refine kk b o (hideAll_get _ (F9.keep b o (K9.all b o (of_hideAll _ q))) fun hb => ?_)
    rcases List.mem_filterMap.mp hb with ⟨env', he', hf'⟩
    rcases List.mem_cons.mp he' with rfl | he'
    · have e1 := K9.all b o (of_hideAll _ q)
      have e2 := Option.some.inj hf'
      rw [← e2, kts_self F9] at e1
      cases e1
    · rw [hideAll_none _ (List.mem_filterMap.mpr ⟨env', he', hf'⟩)] at q
      cases q
  · exact (Heap.UpToSlots.of_keeps fun b o q => F9.keep b o (K9.all b o q)).trans ks
end
section
variable {w : World} {mean : ExcName → Option Value} {mg mb : Str → Option Value} {dp un : Nat} {gd : Option (List Code)} {h₀ : Heap} {env : Env} {L : Addr} {m : Str → Option Value} {s : Shared}
  {news : List (Addr × Obj)} {Q : Value → Shared → Prop} {E : Value → Shared → Prop}
theorem refused_okK {Oc : Addr} {ys : List Value} {bs : List Int} {nn : Nat} {pa k n : Int} {O : Value} {p1 p2 p3 : Tok} (S : Site w mean mg mb dp un h₀ h₀ [] env L m s.heap 24) (N : News h₀ L s.heap news)
    (hm : (Oc, listOf ys.toArray nn) ∈ news) (hi : IntsAre ys bs) (hb : ∀ k ∈ bs, 0 ≤ k ∧ k < 256) (hl : bs.length < 1000)
    (R : Refuses w mean mg mb bs pa k n O) (ret : ∀ h' tk', Fr h₀ L h' m → News h₀ L h' news → Q (.bool true) { s with heap := h', toks := tk' }) :
    wpAny (model Prg w) (Ar dp un gd env []) (call (.ref 131) [.ref Oc, .int pa p1, .int k p2, .int n p3, O]) Q E s := by
  refine refused0 S S.X S.T (PySem.IsL.isList (n := nn) (N _ hm).1) hi hb hl R fun h' tk' k u => ?_
  have ek : fsOf [env] = [L] := by
    show List.filterMap _ [env] = _
    simp [S.hf]
  rw [ek] at k
  have kk : ∀ b o, s.heap.get? b = some o → b ≠ L → h'.get? b = some o := fun b o q z => k b o (hideAll_get _ q fun y => z (List.mem_singleton.mp y))
  exact ret h' tk' (S.F.of_stays (fun b o q => kk b o (S.F.keep b o q) fun z => by rw [z, kts_self S.F] at q; cases q) u) fun p hp => ⟨kk _ _ (N p hp).1 (N p hp).2.1, (N p hp).2⟩
end
local macro_rules | `(tactic| walk_at "call ref") => `(tactic| (k_here; (with_reducible show wpAny _ _ (call (Value.ref 131) _) _ _ _); k_dflt (refine' refused_okK ?S ?N ?m ?i ?b ?l ?R ?_; (case S => walk_at "MY site"); (case N => k_asm); (case m => k_mem); (case i => assumption); (case b => assumption); (case l => omega); (case R => assumption)); intro h' tk' F' N'; (try k_sweep); (try dsimp only)))
example : True := by w_top off; trivial
theorem News.swap {h₀ h : Heap} {L : Addr} {a b : Addr × Obj} {r : List (Addr × Obj)} (N : News h₀ L h (a :: b :: r)) : News h₀ L h (b :: a :: r) := fun p hp => N p (by
  rcases List.mem_cons.mp hp with rfl | hp
  · exact .tail _ (.head _)
  · rcases List.mem_cons.mp hp with rfl | hp
    · exact .head _
    · exact .tail _ (.tail _ hp))
theorem News.pick {h₀ h : Heap} {L : Addr} {l l' : List (Addr × Obj)} (N : News h₀ L h l) (hs : ∀ p ∈ l', p ∈ l) : News h₀ L h l' := fun p hp => N p (hs p hp)
theorem News.del2 {h₀ h : Heap} {L : Addr} {a b : Addr × Obj} {r : List (Addr × Obj)} (N : News h₀ L h (a :: b :: r)) : News h₀ L h (a :: r) := News.pick N fun p hp => by
  rcases List.mem_cons.mp hp with rfl | hp
  · exact .head _
  · exact .tail _ (.tail _ hp)
theorem Keeps.none1 {Sa a : Addr} {h g : Heap} (k : Keeps [Sa] h g) (e : g.get? a = Option.none) (ne : @Ne Nat a Sa) : h.get? a = Option.none := by
  cases z : h.get? a with
  | none => rfl
  | some o => have := k a o z (fun q => ne (List.mem_singleton.mp q)); rw [e] at this; cases this
theorem rangeM_of {s : Shared} {h₀ h : Heap} {L r : Addr} {m : Str → Option Value} {news all : List (Addr × Obj)} {as : List Addr} {Inv : List (Addr × Obj) → Prop} {Bd : Nat → Prop} {d : Int} {t u v : Tok} {tk : Nat} (σ : List (Addr × Obj))
    (hr : IsRange h r 0 d 1 t u v) (h0 : 0 ≤ d) (hB : Bd d.toNat) (F : Fr h₀ L h m) (N : News h₀ L h all) (hs : ∀ p ∈ σ ++ news, p ∈ all) (ha : σ.map (·.1) = as) (hI : Inv σ) : RangeM s h₀ L m news as Inv Bd (.ref r) { s with heap := h, toks := tk } := by
  obtain ⟨n, rfl⟩ := Int.eq_ofNat_of_zero_le h0
  exact ⟨r, n, t, u, v, h, tk, σ, rfl, rfl, F, News.pick N hs, ha, hI, hB, hr⟩
theorem elM_of {s : Shared} {h h' : Heap} {h₀ : Heap} {L : Addr} {Sa : Addr} {o o' : Obj} {all : List (Addr × Obj)} {R : Value → Prop} {y : Value} {tk' : Nat} (hk : Keeps [Sa] h h') (N : News h₀ L h' all) (hm : (Sa, o') ∈ all) (ho : SrcOk o') (hR : R y) :
    ElM s h [(Sa, o)] (fun σ => ∃ o, σ = [(Sa, o)] ∧ SrcOk o) R y { s with heap := h', toks := tk' } :=
  ⟨[(Sa, o')], h', tk', rfl, hk, rfl, fun p hp => by rw [List.mem_singleton.mp hp]; exact (N _ hm).1, ⟨o', rfl, ho⟩, hR⟩
theorem ints_ex {P : Int → Prop} : ∀ {ys : List Value}, (∀ (i : Nat) y, ys[i]? = some y → ∃ k t, y = Value.int k t ∧ P k) → ∃ ns, IntsAre ys ns ∧ ∀ k ∈ ns, P k
  | [], _ => ⟨[], .nil, fun _ h => (nomatch h)⟩
  | y :: ys, h => by
    obtain ⟨k, t, rfl, hk⟩ := h 0 _ rfl
    obtain ⟨ns, hn, hp⟩ := ints_ex (ys := ys) fun i y hy => h (i + 1) y hy
    refine ⟨k :: ns, .cons _ _ hn, fun j hj => ?_⟩
    rcases List.mem_cons.mp hj with rfl | hj
    · exact hk
    · exact hp j hj
theorem ints_at {v : Value} : ∀ {ys : List Value} {ns : List Int} {i : Nat}, IntsAre ys ns → ys[i]? = some v → (∃ t, v = .int (ns.getD i 0) t) ∧ ns.getD i 0 ∈ ns
  | _, _, 0, .cons k t h, e => by
    cases e
    exact ⟨⟨_, rfl⟩, .head _⟩
  | _, _, i + 1, .cons k t h, e => by
    have := ints_at (i := i) h e
    exact ⟨this.1, .tail _ this.2⟩
section
variable {w : World} {mean : ExcName → Option Value} {mg mb : Str → Option Value} {dp un : Nat} {gd : Option (List Code)} {base h₀ : Heap} {outer : List Env} {env : Env} {L : Addr} {m : Str → Option Value} {s : Shared}
  {news : List (Addr × Obj)} {nf : Obj → List (Addr × Obj)} {Q : Value → Shared → Prop} {E : Value → Shared → Prop}
theorem take_okK {Sa : Addr} {o : Obj} {top : Int} {p1 : Tok} (S : Site w mean mg mb dp un base h₀ outer env L m s.heap 4) (N : News h₀ L s.heap news) (U : UpdF Sa o news nf) (ho : SrcOk o) (ht : 0 < top) (ht2 : top ≤ 4294967296)
    (ret : ∀ d t o' h' tk', 0 ≤ d → d < top → SrcOk o' → Keeps [Sa] s.heap h' → Fr h₀ L h' m → News h₀ L h' (nf o') → Q (.int d t) { s with heap := h', toks := tk' }) :
    wpAny (model Prg w) (Ar dp un gd env outer) (call (.ref 100) [.ref Sa, .int top p1]) Q E s := by
  obtain ⟨a, b, ta, tb, rfl, ha, hb0, hb⟩ := ho
  exact take0 S (News.own N U) ha hb0 hb ht ht2 fun d t a' b' ta' tb' h' tk' x1 x2 x3 x4 x5 k g => ret d t _ h' tk' x1 x2 ⟨a', b', ta', tb', rfl, x3, x4, x5⟩ k (Fr.mut S.F N U k) (News.mut N U k g)
end
local macro_rules | `(tactic| walk_at "call ref") => `(tactic| (k_here; (with_reducible show wpAny _ _ (call (Value.ref 100) _) _ _ _); k_dflt (refine' take_okK ?S ?N ?U ?a0 ?t0 ?t1 ?_; (case S => walk_at "MY site"); (case N => k_asm); (case U => k_updF); (case a0 => assumption); (case t0 => first | omega | decide); (case t1 => first | omega | decide)); intro d' t' o' h' tk' d0' d1' a0' k' F' N'; (try dsimp only at N'); (try k_sweep); (try dsimp only)))
section
variable {w : World} {mean : ExcName → Option Value} {mg mb : Str → Option Value} {dp un : Nat} {gd : Option (List Code)} {base h₀ : Heap} {outer : List Env} {env : Env} {L : Addr} {m : Str → Option Value} {s : Shared}
  {news : List (Addr × Obj)} {nf : Obj → List (Addr × Obj)} {Q : Value → Shared → Prop} {E : Value → Shared → Prop}
theorem valuesT0 {Sa : Addr} {o : Obj} {p1 : Tok} {O : Value} (S : Site w mean mg mb dp un base h₀ outer env L m s.heap 20) (N : News h₀ L s.heap [(Sa, o)]) (ho : SrcOk o)
    (ret : ∀ T D signs rest t ys n o' h' tk', (∀ k ∈ signs, 1 ≤ k ∧ k < 256) → signs.length ≤ 6 → (∀ k ∈ rest, 0 ≤ k ∧ k < 256) → rest.length ≤ 2 → SrcOk o' → Keeps [Sa] s.heap h' → h'.get? Sa = some o' → s.heap.get? T = none → h'.get? T = some { cls := .type "tuple", data := .seq #[.str (signsT signs) t, .ref D] } →
      s.heap.get? D = none → h'.get? D = some (listOf ys.toArray n) → IntsAre ys (signs ++ [0] ++ rest) → @Ne Nat T D → Q (.ref T) { s with heap := h', toks := tk' }) :
    wpAny (model Prg w) (Ar dp un gd env outer) (call (.ref 124) [.ref Sa, .int 2 p1, O]) Q E s := by
  walk_at "MY enterC"
  (rename Fr _ _ _ _ => F0)
  have F1 : Fr _ _ _ (fun (y : Str) => if y = "way" then some O else if y = "kind" then some (.int 2 p1) else none) := F0
  clear F0
  k_steps
  unfold Stop
  (rename Fr _ _ _ _ => F9); (rename News _ _ _ _ => N9);
  refine Assign_range (as := [Sa]) (Inv := fun σ => ∃ o, σ = [(Sa, o)] ∧ SrcOk o) (R := fun i y => ∃ k t, y = .int k t ∧ 1 ≤ k ∧ k < 256) (fun n => n ≤ 6) rfl F9 (News.tail' (News.swap N9)) rfl ?off (fun n e => by omega) (by with_unfolding_all rfl) (by with_unfolding_all rfl) (by decide) (by rfl) (by decide) (by rfl) (by rfl) (by rfl) ?h ?turn ?fin
  case off =>
    intro q hq
    rw [List.mem_singleton.mp hq]
    exact fun e => absurd (List.mem_singleton.mp e) (by k_ne)
  case h =>
    k_steps
    (rename News _ _ _ _ => N8)
    refine rangeM_of [(Sa, _)] (by assumption) (by assumption) (by omega) (by assumption) N8 (by lcg_sub) rfl ⟨_, rfl, by assumption⟩
  case turn =>
    rintro i n t C oC m₂ h tk E' σ hn hi ⟨o, rfl, ho⟩ ha hC hx F N ne
    simp only [List.cons_append, List.nil_append] at N
    have ne' : @Ne Nat C Sa := ne Sa (.head _)
    k_steps
    (rename News _ _ _ _ => N8)
    exact elM_of (by assumption) N8 (by k_mem) (by assumption) ⟨_, _, rfl, by omega, by omega⟩
  case fin =>
    rintro D ys σ h tk hl hy ⟨o, rfl, ho⟩ ha F N off
    simp only [List.cons_append, List.nil_append] at N
    have off1 : @Ne Nat Sa D := off (Sa, o) (.head _)
    have off2 := off _ (.tail _ (.head _))
    clear F9 N9
    k_steps
    unfold Stop
    refine Assign_range (as := [Sa]) (Inv := fun σ => ∃ o, σ = [(Sa, o)] ∧ SrcOk o) (R := fun i y => ∃ k t, y = .int k t ∧ 0 ≤ k ∧ k < 256) (fun n => n ≤ 2) rfl F (News.del2 N) rfl ?off (fun n e => by omega) (by with_unfolding_all rfl) (by with_unfolding_all rfl) (by decide) (by rfl) (by decide) (by rfl) (by rfl) (by rfl) ?h ?turn ?fin
    case off =>
      intro q hq
      rcases List.mem_cons.mp hq with rfl | hq
      · exact fun e => off1 (List.mem_singleton.mp e).symm
      · rw [List.mem_singleton.mp hq]
        exact fun e => absurd (List.mem_singleton.mp e) (by k_ne)
    case h =>
      k_steps
      (rename News _ _ _ _ => N8)
      refine rangeM_of [(Sa, _)] (by assumption) (by assumption) (by omega) (by assumption) N8 (by lcg_sub) rfl ⟨_, rfl, by assumption⟩
    case turn =>
      rintro i n t C oC m₂ h tk E' σ hn hi ⟨o, rfl, ho⟩ ha hC hx F N ne
      simp only [List.cons_append, List.nil_append] at N
      have ne' : @Ne Nat C Sa := ne Sa (.head _)
      k_steps
      (rename News _ _ _ _ => N8)
      exact elM_of (by assumption) N8 (by k_mem) (by assumption) ⟨_, _, rfl, by omega, by omega⟩
    case fin =>
      rintro D2 ys2 σ h tk hl2 hy2 ⟨o, rfl, ho⟩ ha F N off
      simp only [List.cons_append, List.nil_append] at N
      have off3 : @Ne Nat Sa D2 := off (Sa, o) (.head _)
      have off4 := off _ (.tail _ (.head _))
      have off5 := off _ (.tail _ (.tail _ (.head _)))
      obtain ⟨signs, hI1, hP1⟩ := ints_ex hy
      obtain ⟨rest, hI2, hP2⟩ := ints_ex hy2
      have hl1' := hI1.length
      have hl2' := hI2.length
      have hn1 : signs.length ≤ 1000 := by omega
      k_steps
      unfold Stop
      refine eval_list (its := ys.toArray) (R := fun i y => ∃ t, y = .str (chrS (signs.getD i 0)) t) rfl F N (by with_unfolding_all rfl) (by decide) (by rfl) (by decide) (by rfl) (by rw [List.size_toArray]; omega) ?h ?turn ?fin
      case h =>
        k_steps
        any_goals exact ys.length
        all_goals first | assumption | exact .tail _ (.tail _ (.head _))
      case turn =>
        intro i v C oC m₂ h tk E' hv hC hx F N
        rw [List.getElem?_toArray] at hv
        obtain ⟨⟨tv, rfl⟩, hm⟩ := ints_at hI1 hv
        obtain ⟨b1, b2⟩ := hP1 _ hm
        k_steps
        refine ⟨[], _, _, rfl, by (first | exact Keeps.refl | exact Keeps.of (by assumption)), rfl, by simp, rfl, tk, rfl⟩
      case fin =>
        intro D3 ys3 h tk hl3 hy3 F N off
        have hj := strs_of hy3
        rw [hl3, List.size_toArray, hl1', range_getD] at hj
        k_steps
        (rename Fr _ _ _ _ => F); (rename News _ _ _ _ => N)
        refine ret _ _ signs rest _ _ _ _ _ _ hP1 (by omega) hP2 (by omega) ho (Keeps.leave (by assumption) F) (N _ (.tail _ (.tail _ (.tail _ (.tail _ (.tail _ (.tail _ (.head _)))))))).1 (Keeps.none1 (by assumption) (N _ (.head _)).2.2 (by k_ne)) (N _ (.head _)).1 (Keeps.none1 (by assumption) (N _ (.tail _ (.head _))).2.2 (by k_ne)) (N _ (.tail _ (.head _))).1 (by assumption) (by k_ne)
end
local macro_rules | `(tactic| walk_at "exec For Name Call cons nil") => `(tactic| (k_here; refine stop_in ?_))
example : True := by w_top off; trivial
section
theorem ite_no {c : Bool} {P Q : Prop} (h : c = false) (q : Q) : if c = true then P else Q := by subst h; exact q
theorem ite_yes {c : Bool} {P Q : Prop} (h : c = true) (q : P) : if c = true then P else Q := by subst h; exact q
local macro_rules | `(tactic| walk_at "ite") => `(tactic| (k_here; first | (with_reducible refine ite_no (by decide) ?_) | (with_reducible refine ite_yes (by decide) ?_)))
abbrev pairK (k : Int) : Prop := k = 5 ∨ k = 10
def datI (k : Int) (p : Int × Int) : Dat := if pairK k then .tuple [.int p.1, .int p.2] else .int p.1
def szF (k : Int) : Nat := if k = 1 ∨ k = 7 then 1 else if k = 3 then 2 else 4
def octI (low : Bool) (k : Int) (p : Int × Int) : List Int := if pairK k then octsF low p.1 (szF k) ++ octsF low p.2 (szF k) else octsF low p.1 (szF k)
def InK (k x : Int) : Prop := 0 ≤ x + lowF k ∧ x + lowF k < topF k
structure LoopP (Sa V I : Addr) (low : Bool) (k : Int) (c : Addr × Obj) (m₀ : Str → Option Value) (i : Nat) (m : Str → Option Value) (news : List (Addr × Obj)) : Prop where
  st : ∃ (D : Addr) (os : List Value) (nD : Nat) (vs : List Value) (nV : Nat) (o : Obj) (tl : List (Addr × Obj)) (u : Str → Option Value) (items : List (Int × Int)),
    m = (fun (y : Str) => if y = "octets" then some (.ref D) else if (["turn", "one", "other"] : List Str).contains y then u y else m₀ y) ∧
    news = (D, listOf os.toArray nD) :: (V, listOf vs.toArray nV) :: c :: (Sa, o) :: tl ∧ SrcOk o ∧ IntsAre os (items.flatMap (octI low k)) ∧ DatAll tl vs (items.map (datI k)) ∧ items.length = i ∧ (∀ p ∈ items, InK k p.1 ∧ InK k p.2) ∧
    (@LT.lt Nat _ V D) ∧ (@Ne Nat D I) ∧ (∀ p ∈ tl, p.1 ≠ Sa) ∧ (∀ p ∈ tl, p.1 ≠ V) ∧ (∀ p ∈ tl, p.1 ≠ I)
theorem News.del3 {h₀ h : Heap} {L : Addr} {a b c : Addr × Obj} {r : List (Addr × Obj)} (N : News h₀ L h (a :: b :: c :: r)) : News h₀ L h (a :: b :: r) := News.pick N fun p hp => by
  rcases List.mem_cons.mp hp with rfl | hp
  · exact .head _
  · rcases List.mem_cons.mp hp with rfl | hp
    · exact .tail _ (.head _)
    · exact .tail _ (.tail _ (.tail _ hp))
theorem iter_V {prog : Program} {w : World} {A : Around} {E : Value → Shared → Prop} {h₀ : Heap} {env : Env} {x : Str} {body : List Stmt} {Q : Flow → Shared → Prop} {s : Shared} {r : Addr} {d : Int} {t₀ u₀ v₀ : Tok} {m₀ : Str → Option Value} {D0 V Sa : Addr} {c : Addr × Obj} {o : Obj}
    (low : Bool) (k : Int) (hh : A.handled = none) (hr : IsRange s.heap r 0 d 1 t₀ u₀ v₀) (h0 : 0 ≤ d) (h1 : d ≤ 1000) (F : Fr h₀ env.locals s.heap m₀) (N : News h₀ env.locals s.heap ((D0, listOf #[] 0) :: (V, listOf #[] 0) :: c :: [(Sa, o)]))
    (hD : m₀ "octets" = some (.ref D0)) (vD : @LT.lt Nat _ V D0) (ho : SrcOk o)
    (turn : ∀ (I : Addr) (n i : Nat) m news t h tk, AllLt I ((D0, listOf #[] 0) :: (V, listOf #[] 0) :: c :: [(Sa, o)]) → i < n → (n : Int) = d → LoopP Sa V I low k c m₀ i m news → Fr h₀ env.locals h (fun y => if y = x then some (.int (0 + (i : Int)) t) else m y) → News h₀ env.locals h ((I, itR (0 + ((i + 1 : Nat) : Int)) ((n : Int) - ((i + 1 : Nat) : Int))) :: news) →
      wpAny (model prog w) A (execs body env) (UnrPost h₀ env.locals { s with heap := h, toks := tk } I (itR (0 + ((i + 1 : Nat) : Int)) ((n : Int) - ((i + 1 : Nat) : Int))) (LoopP Sa V I low k c m₀ (i + 1)) Q) E { s with heap := h, toks := tk })
    (done : ∀ (I : Addr) (n : Nat) m news h tk, AllLt I ((D0, listOf #[] 0) :: (V, listOf #[] 0) :: c :: [(Sa, o)]) → (n : Int) = d → LoopP Sa V I low k c m₀ n m news → Fr h₀ env.locals h m → News h₀ env.locals h news → Q .next { s with heap := h, toks := tk }) :
    wpAny (model prog w) A (pyIter (.ref r)) (fun it s₂ => LoopAtV prog w A h₀ env x body Q E it s₂) E s := by
  refine iter_P (fun I i m news => LoopP Sa V I low k c m₀ i m news) hh hr h0 h1 F N (fun I l1 => ?_) turn done
  simp only [AllLt, and_true] at l1
  refine ⟨D0, [], 0, [], 0, o, [], m₀, [], ?_, rfl, ho, .nil, .nil, rfl, by simp, vD, Nat.ne_of_lt l1.1, by simp, by simp, by simp⟩
  funext y
  by_cases e : y = "octets"
  · rw [if_pos e, e, hD]
  · rw [if_neg e]
    split <;> rfl
theorem octsF_length (low : Bool) (x : Int) (sz : Nat) : (octsF low x sz).length = sz := by
  unfold octsF
  split <;> simp
theorem szF_le (k : Int) : szF k ≤ 4 := by
  unfold szF
  split
  · decide
  · split <;> decide
theorem octI_length (low : Bool) (k : Int) (p : Int × Int) : (octI low k p).length ≤ 8 := by
  have := szF_le k
  unfold octI
  split
  · rw [List.length_append, octsF_length, octsF_length]; omega
  · rw [octsF_length]; omega
theorem flat_length (low : Bool) (k : Int) : ∀ items : List (Int × Int), (items.flatMap (octI low k)).length ≤ 8 * items.length
  | [] => by simp
  | p :: r => by
    have h1 := flat_length low k r
    have h2 := octI_length low k p
    rw [List.flatMap_cons, List.length_append, List.length_cons]
    omega
theorem dat_length {tl : List (Addr × Obj)} : ∀ {vs : List Value} {ds : List Dat}, DatAll tl vs ds → vs.length = ds.length
  | _, _, .nil => rfl
  | _, _, .cons _ h => congrArg (· + 1) (dat_length h)
theorem turn_end {s : Shared} {g h' : Heap} {L Sa V I D' : Addr} {low : Bool} {k : Int} {c : Addr × Obj} {m₀ m' u : Str → Option Value} {i nD' nV' tk : Nat} {it o' : Obj} {ws vs : List Value} {v a1 a2 a3 : Value} {os : List Int} {D : Addr} {tl tl' all : List (Addr × Obj)} {items : List (Int × Int)} {d1 d2 : Int}
    (F : Fr g L h' m') (N : News g L h' all) (hm : m' = fun (y : Str) => if y = "octets" then some (.ref D') else if y = "one" then some a1 else if y = "other" then some a2 else if y = "turn" then some a3 else if y = "octets" then some (.ref D) else if (["turn", "one", "other"] : List Str).contains y then u y else m₀ y)
    (mD : (D', listOf ws.toArray nD') ∈ all) (mV : (V, listOf (vs ++ [v]).toArray nV') ∈ all) (mS : (Sa, o') ∈ all)
    (sub : ∀ p ∈ (I, it) :: (D', listOf ws.toArray nD') :: (V, listOf (vs ++ [v]).toArray nV') :: c :: (Sa, o') :: tl', p ∈ all) (off : ∀ p ∈ (D', listOf ws.toArray nD') :: (V, listOf (vs ++ [v]).toArray nV') :: c :: (Sa, o') :: tl', p.1 ≠ I)
    (ho : SrcOk o') (hI : IntsAre ws os) (hos : os = items.flatMap (octI low k) ++ octI low k (d1, d2)) (hd : DatAll tl vs (items.map (datI k))) (htl : ∀ p ∈ tl, p ∈ tl') (hv : DatIn tl' v (datI k (d1, d2))) (hl : items.length = i) (hit : ∀ p ∈ items, InK k p.1 ∧ InK k p.2) (h1 : InK k d1) (h2 : InK k d2)
    (vd : @LT.lt Nat _ V D') (t1 : ∀ p ∈ tl', p.1 ≠ Sa) (t2 : ∀ p ∈ tl', p.1 ≠ V) : UnrEnd g L s I it (LoopP Sa V I low k c m₀ (i + 1)) { s with heap := h', toks := tk } := by
  refine UnrEnd.intro F N _ sub off ⟨D', ws, nD', vs ++ [v], nV', o', tl', m', items ++ [(d1, d2)], ?_, rfl, ho, ?_, ?_, ?_, ?_, vd, ?_, t1, t2, ?_⟩
  · subst hm
    funext y
    by_cases e : y = "octets"
    · simp only [e, if_true]
    · simp only [if_neg e]
      by_cases z : (["turn", "one", "other"] : List Str).contains y = true
      · simp only [if_pos z]
      · have z' := z
        simp only [List.contains_cons, List.contains_nil, Bool.or_false, Bool.or_eq_true, beq_iff_eq, not_or] at z'
        simp only [if_neg z, if_neg z'.1, if_neg z'.2.1, if_neg z'.2.2]
  · rw [List.flatMap_append, List.flatMap_singleton, ← hos]; exact hI
  · rw [List.map_append]
    exact (hd.mono htl).append (.one hv)
  · simp [hl]
  · intro p hp
    rcases List.mem_append.mp hp with hp | hp
    · exact hit p hp
    · rw [List.mem_singleton.mp hp]; exact ⟨h1, h2⟩
  · exact off _ (.head _)
  · exact fun p hp => off p (.tail _ (.tail _ (.tail _ (.tail _ hp))))
theorem turn_end1 {s : Shared} {g h' : Heap} {L Sa V I D' : Addr} {low : Bool} {k : Int} {c : Addr × Obj} {m₀ m' u : Str → Option Value} {i nD' nV' tk z : Nat} {it o' : Obj} {ws vs : List Value} {a1 a2 a3 : Value} {D : Addr} {tl all : List (Addr × Obj)} {items : List (Int × Int)} {d1 : Int} {t : Tok}
    (F : Fr g L h' m') (N : News g L h' all) (nk : ¬ pairK k) (hz : z = szF k) (hm : m' = fun (y : Str) => if y = "octets" then some (.ref D') else if y = "one" then some a1 else if y = "other" then some a2 else if y = "turn" then some a3 else if y = "octets" then some (.ref D) else if (["turn", "one", "other"] : List Str).contains y then u y else m₀ y)
    (mD : (D', listOf ws.toArray nD') ∈ all) (mV : (V, listOf (vs ++ [Value.int d1 t]).toArray nV') ∈ all) (mS : (Sa, o') ∈ all)
    (sub : ∀ p ∈ (I, it) :: (D', listOf ws.toArray nD') :: (V, listOf (vs ++ [Value.int d1 t]).toArray nV') :: c :: (Sa, o') :: tl, p ∈ all) (off : ∀ p ∈ (D', listOf ws.toArray nD') :: (V, listOf (vs ++ [Value.int d1 t]).toArray nV') :: c :: (Sa, o') :: tl, p.1 ≠ I)
    (ho : SrcOk o') (hI : IntsAre ws (items.flatMap (octI low k) ++ octsF low d1 z)) (h1 : 0 ≤ d1 + lowF k) (h1' : d1 + lowF k < topF k) (hd : DatAll tl vs (items.map (datI k))) (hl : items.length = i) (hit : ∀ p ∈ items, InK k p.1 ∧ InK k p.2)
    (vd : @LT.lt Nat _ V D') (t1 : ∀ p ∈ tl, p.1 ≠ Sa) (t2 : ∀ p ∈ tl, p.1 ≠ V) : UnrEnd g L s I it (LoopP Sa V I low k c m₀ (i + 1)) { s with heap := h', toks := tk } :=
  turn_end (tl' := tl) (d1 := d1) (d2 := d1) F N hm mD mV mS sub off ho hI (by unfold octI; rw [if_neg nk, hz]) hd (fun _ h => h) (by unfold datI; rw [if_neg nk]; exact DatIn.int _ _) hl hit ⟨h1, h1'⟩ ⟨h1, h1'⟩ vd t1 t2
theorem turn_end2 {s : Shared} {g h' : Heap} {L Sa V I D' P D2 : Addr} {low : Bool} {k : Int} {c : Addr × Obj} {m₀ m' u : Str → Option Value} {i nD' nV' tk nP z : Nat} {it o' : Obj} {ws vs : List Value} {a1 a2 a3 : Value} {D : Addr} {tl all : List (Addr × Obj)} {items : List (Int × Int)} {d1 d2 : Int} {tt1 tt2 : Tok}
    (F : Fr g L h' m') (N : News g L h' all) (nk : pairK k) (hz : z = szF k) (hm : m' = fun (y : Str) => if y = "octets" then some (.ref D') else if y = "octets" then some (.ref D2) else if y = "one" then some a1 else if y = "other" then some a2 else if y = "turn" then some a3 else if y = "octets" then some (.ref D) else if (["turn", "one", "other"] : List Str).contains y then u y else m₀ y)
    (mD : (D', listOf ws.toArray nD') ∈ all) (mV : (V, listOf (vs ++ [Value.ref P]).toArray nV') ∈ all) (mS : (Sa, o') ∈ all)
    (sub : ∀ p ∈ (I, it) :: (D', listOf ws.toArray nD') :: (V, listOf (vs ++ [Value.ref P]).toArray nV') :: c :: (Sa, o') :: (P, ({ cls := .type "tuple", data := .seq #[.int d1 tt1, .int d2 tt2] nP } : Obj)) :: tl, p ∈ all) (off : ∀ p ∈ (D', listOf ws.toArray nD') :: (V, listOf (vs ++ [Value.ref P]).toArray nV') :: c :: (Sa, o') :: (P, ({ cls := .type "tuple", data := .seq #[.int d1 tt1, .int d2 tt2] nP } : Obj)) :: tl, p.1 ≠ I)
    (ho : SrcOk o') (hI : IntsAre ws ((items.flatMap (octI low k) ++ octsF low d1 z) ++ octsF low d2 z)) (h1 : 0 ≤ d1 + lowF k) (h1' : d1 + lowF k < topF k) (h2 : 0 ≤ d2 + lowF k) (h2' : d2 + lowF k < topF k) (hd : DatAll tl vs (items.map (datI k))) (hl : items.length = i) (hit : ∀ p ∈ items, InK k p.1 ∧ InK k p.2)
    (vd : @LT.lt Nat _ V D') (t1 : ∀ p ∈ tl, p.1 ≠ Sa) (t2 : ∀ p ∈ tl, p.1 ≠ V) (pS : @Ne Nat P Sa) (pV : @Ne Nat P V) : UnrEnd g L s I it (LoopP Sa V I low k c m₀ (i + 1)) { s with heap := h', toks := tk } := by
  have hm' : m' = fun (y : Str) => if y = "octets" then some (.ref D') else if y = "one" then some a1 else if y = "other" then some a2 else if y = "turn" then some a3 else if y = "octets" then some (.ref D) else if (["turn", "one", "other"] : List Str).contains y then u y else m₀ y := hm.trans (funext fun y => by by_cases e : y = "octets" <;> simp only [e, if_true, if_false])
  refine turn_end (tl' := (P, ({ cls := .type "tuple", data := .seq #[.int d1 tt1, .int d2 tt2] nP } : Obj)) :: tl) (d1 := d1) (d2 := d2) F N hm' mD mV mS sub off ho hI (by unfold octI; rw [if_pos nk, hz, List.append_assoc]) hd (fun _ h => .tail _ h) (by unfold datI; rw [if_pos nk]; exact DatIn.tuple (.head _) (.cons (.int _ _) (.cons (.int _ _) .nil))) hl hit ⟨h1, h1'⟩ ⟨h2, h2'⟩ vd ?_ ?_
  · intro p hp
    rcases List.mem_cons.mp hp with rfl | hp
    · exact pS
    · exact t1 p hp
  · intro p hp
    rcases List.mem_cons.mp hp with rfl | hp
    · exact pV
    · exact t2 p hp
theorem mem_last {α : Type} {p : α} {l pre tl : List α} (hp : p ∈ tl) (h : l = pre ++ tl) : p ∈ l := h ▸ List.mem_append_right _ hp
local macro_rules | `(tactic| walk_at "MY sub") => `(tactic| ((repeat' (refine List.forall_mem_cons.mpr ⟨by k_mem, ?_⟩)); (intro p hp; repeat (first | exact hp | refine List.mem_cons_of_mem _ ?_))))
local macro_rules | `(tactic| walk_at "MY off") => `(tactic| ((repeat' (refine List.forall_mem_cons.mpr ⟨by k_ne, ?_⟩)); assumption))
theorem vals_fin {s : Shared} {g h' : Heap} {L Sa T V D : Addr} {low : Bool} {k : Int} {c : Addr × Obj} {m' : Str → Option Value} {nD nV tk : Nat} {o : Obj} {os vs : List Value} {tl : List (Addr × Obj)} {items : List (Int × Int)} {Q : Value → Shared → Prop}
    (ret : ∀ (T V D : Addr) (vs os : List Value) (nV nD : Nat) (tl : List (Addr × Obj)) (items : List (Int × Int)) o' h' tk', items.length ≤ 4 → (∀ p ∈ items, InK k p.1 ∧ InK k p.2) → SrcOk o' → Keeps [Sa] s.heap h' → h'.get? Sa = some o' →
      Made ((T, ({ cls := .type "tuple", data := .seq #[.ref V, .ref D] } : Obj)) :: (D, listOf (List.toArray os) nD) :: (V, listOf (List.toArray vs) nV) :: tl) s.heap h' → @Ne Nat T V → @Ne Nat T D → @Ne Nat V D → DatAll tl vs (items.map (datI k)) → IntsAre os (items.flatMap (octI low k)) → Q (.ref T) { s with heap := h', toks := tk' })
    (F : Fr g L h' m') (N : News g L h' ((T, ({ cls := .type "tuple", data := .seq #[.ref V, .ref D] } : Obj)) :: (D, listOf os.toArray nD) :: (V, listOf vs.toArray nV) :: c :: (Sa, o) :: tl)) (kG : Keeps [Sa] s.heap g)
    (hl : items.length ≤ 4) (hit : ∀ p ∈ items, InK k p.1 ∧ InK k p.2) (ho : SrcOk o) (t1 : ∀ p ∈ tl, p.1 ≠ Sa) (hd : DatAll tl vs (items.map (datI k))) (hI : IntsAre os (items.flatMap (octI low k)))
    (TS : @Ne Nat T Sa) (DS : @Ne Nat D Sa) (VS : @Ne Nat V Sa) (TV : @Ne Nat T V) (TD : @Ne Nat T D) (VD : @Ne Nat V D) : Q (.ref T) { s with heap := h', toks := tk } := by
  have kk := Keeps.leave kG F
  have one : ∀ p, p ∈ (T, ({ cls := .type "tuple", data := .seq #[.ref V, .ref D] } : Obj)) :: (D, listOf os.toArray nD) :: (V, listOf vs.toArray nV) :: c :: (Sa, o) :: tl → @Ne Nat p.1 Sa → s.heap.get? p.1 = none ∧ h'.get? p.1 = some p.2 := fun p hp ne =>
    ⟨Keeps.none1 kG (N p hp).2.2 ne, (N p hp).1⟩
  refine ret T V D vs os nV nD tl items o h' tk hl hit ho kk (N (Sa, o) (.tail _ (.tail _ (.tail _ (.tail _ (.head _)))))).1 ?_ TV TD VD hd hI
  refine List.forall_mem_cons.mpr ⟨one _ (.head _) TS, List.forall_mem_cons.mpr ⟨one _ (.tail _ (.head _)) DS, List.forall_mem_cons.mpr ⟨one _ (.tail _ (.tail _ (.head _))) VS, fun p hp => ?_⟩⟩⟩
  exact one p (.tail _ (.tail _ (.tail _ (.tail _ (.tail _ hp))))) (t1 p hp)
theorem any_pos {k : Int} (h : (List.any [5, 10] fun x => x == k) = true) : pairK k := by
  simp at h
  rcases h with h | h
  · exact .inl h.symm
  · exact .inr h.symm
theorem any_neg {k : Int} (h : (List.any [5, 10] fun x => x == k) = false) : ¬ pairK k := by
  simp at h
  rintro (e | e)
  · exact h.1 e.symm
  · exact h.2 e.symm
local macro_rules | `(tactic| walk_at "binaryOp Add ref ref") => `(tactic| (k_here; (with_reducible show wpAny _ _ (binaryOp _ (Value.ref _) (Value.ref _)) _ _ _); k_dflt (refine' kmk_add_ints ?F ?N ?a ?b ?i ?j ?_ ?z; (case F => k_asm); (case N => k_asm); (case a => kmk_list); (case b => kmk_list); (case i => l_ints); (case j => l_ints); (case z => (rw [sizeLine_eq]; (try simp only [octsF_length, List.length_append]); omega))); intro D' ws' h' F' N' l1 hI'; (try k_lt l1); (try k_sweep)))
local macro_rules | `(tactic| walk_at "call builtin:list.append") => `(tactic| (k_here; (with_reducible show wpAny _ _ (call (Value.builtin _) [Value.ref _, _]) _ _ _); k_dflt (refine' append_K ?k1 ?k2 ?k3 ?_ ?z; (case k1 => k_asm); (case k2 => k_asm); (case k3 => k_upd); (case z => (rw [sizeLine_eq]; simp only [List.size_toArray]; omega)); k_whole); intro h' F' N'; (try k_sweep)))
local macro_rules | `(tactic| walk_at "UnrEnd") => `(tactic| (refine stop_in ?_))
local macro_rules | `(tactic| walk_at "newTuple") => `(tactic| (k_here; k_dflt (refine' kup_newTuple ?F ?N ?_ ?z; (case F => k_asm); (case N => k_asm); (case z => kmk_size)); intro D' h' F' N' l1; (try k_lt l1); (try k_sweep)))
local macro_rules | `(tactic| walk_at "call ref") => `(tactic| (k_here; (with_reducible show wpAny _ _ (call (Value.ref 112) _) _ _ _); k_dflt (refine' octets_okK ?S ?N ?z ?_; (case S => walk_at "MY site"); (case N => k_asm); (case z => first | decide | assumption)); intro D' ys' n' h' tk' F' N' ne' i'; (try simp only [List.forall_mem_cons] at ne'); (try k_sweep); (try dsimp only)))
section
variable {prog : Program} {w : World} {A : Around} {E : Value → Shared → Prop} {s : Shared} {h₀ : Heap} {L d : Addr} {news : List (Addr × Obj)} {o : Obj} {kvs : List (Int × Value)} {k : Int} {t : Tok} {t1 t3 t4 t5 t7 t9 t10 : Tok}
theorem shown_sz {value slice : PySem.Expr} {Q : Value → Shared → Prop} (N : News h₀ L s.heap news) (hp : (d, o) ∈ news) (hd : o.IsDictOf (PySem.intKind prog w) kvs) (hk : K7 k) (hv : kvs = [(1, .int 1 t1), (3, .int 2 t3), (4, .int 4 t4), (5, .int 4 t5), (7, .int 1 t7), (9, .int 4 t9), (10, .int 4 t10)])
    (h : ∀ t, Q (.int (szF k : Int) t) { s with toks := s.toks + 1 })
    (hs : subscripted slice false (.ref d) (.int k t) = operate [.ref d, .int k t] (getItem (.ref d) (.int k t)) := by with_unfolding_all rfl) :
    wpAny (model prog w) A (subscriptTail value slice (.ref d) (.int k t)) Q E s := by
  have z : ∃ t, valueAt kvs k = some (.int (szF k : Int) t) := by
    subst hv
    rcases hk with rfl | rfl | rfl | rfl | rfl | rfl | rfl <;> exact ⟨_, rfl⟩
  obtain ⟨t', z⟩ := z
  exact shown_item (knd := PySem.intKind _ _) N hp hd (intKind_is _ _ _ _) z (h t') hs
end
def SzOk (k : Int) : Prop := ((szF k : Nat) : Int) = 1 ∨ ((szF k : Nat) : Int) = 2 ∨ ((szF k : Nat) : Int) = 4
theorem szF_ok {k : Int} (hk : K7 k) : SzOk k := by
  rcases hk with rfl | rfl | rfl | rfl | rfl | rfl | rfl <;> (unfold SzOk; decide)
local macro_rules | `(tactic| walk_at "subscriptTail") => `(tactic| (k_here; (with_reducible show wpAny _ _ (subscriptTail (Expr.Dict _ _ _) _ (Value.ref _) (Value.int _ _)) _ _ _); k_dflt (refine' shown_sz ?myN ?mym ?myd ?myk ?myv ?_ ?mys; (case myN => k_asm); (case mym => exact .head _); (case myd => assumption); (case myk => assumption); (case myv => rfl); (case mys => with_unfolding_all rfl)); intro t'; (try dsimp only)))
local macro_rules | `(tactic| k_all) => `(tactic| assumption)
local macro_rules | `(tactic| walk_at "call type:range") => `(tactic| (k_here; (rename Fr _ _ _ _ => F'); (rename News _ _ _ _ => N'); (with_unfolding_all refine range1_rows F' N' ?_; intro _ _ _ _ _ _ _ _ _)))
local macro_rules | `(tactic| walk_at "pyIter ref") => `(tactic| (k_here; refine stop_in ?_))
section
variable {w : World} {mean : ExcName → Option Value} {mg mb : Str → Option Value} {dp un : Nat} {gd : Option (List Code)} {base h₀ : Heap} {outer : List Env} {env : Env} {L : Addr} {m : Str → Option Value} {s : Shared}
  {news : List (Addr × Obj)} {nf : Obj → List (Addr × Obj)} {Q : Value → Shared → Prop} {E : Value → Shared → Prop}
theorem valuesN0 {Sa : Addr} {o : Obj} {k : Int} {p1 p2 : Tok} {low : Bool} (S : Site w mean mg mb dp un base h₀ outer env L m s.heap 20) (N : News h₀ L s.heap [(Sa, o)]) (ho : SrcOk o) (hk : K7 k)
    (ret : ∀ (T V D : Addr) (vs os : List Value) (nV nD : Nat) (tl : List (Addr × Obj)) (items : List (Int × Int)) o' h' tk', items.length ≤ 4 → (∀ p ∈ items, InK k p.1 ∧ InK k p.2) → SrcOk o' → Keeps [Sa] s.heap h' → h'.get? Sa = some o' →
      Made ((T, ({ cls := .type "tuple", data := .seq #[.ref V, .ref D] } : Obj)) :: (D, listOf (List.toArray os) nD) :: (V, listOf (List.toArray vs) nV) :: tl) s.heap h' → @Ne Nat T V → @Ne Nat T D → @Ne Nat V D → DatAll tl vs (items.map (datI k)) → IntsAre os (items.flatMap (octI low k)) → Q (.ref T) { s with heap := h', toks := tk' }) :
    wpAny (model Prg w) (Ar dp un gd env outer) (call (.ref 124) [.ref Sa, .int k p1, .bytes (ordB low) p2]) Q E s := by
  have k2 : k ≠ 2 := by rcases hk with rfl | rfl | rfl | rfl | rfl | rfl | rfl <;> decide
  have hz := szF_ok hk
  have hz4 := szF_le k
  walk_at "MY enterC"
  (rename Fr _ _ _ _ => F0); (rename Obj.data _ = _ => d0)
  have F1 : Fr _ _ _ (fun y => if y = "way" then some (.bytes (ordB low) p2) else if y = "kind" then some (.int k p1) else none) := F0
  have d1 : Obj.data _ = Data.cell (some (.ref Sa)) := d0
  clear F0 d0
  k_steps
  · exact absurd (by assumption) k2
  unfold Stop
  (rename Fr _ _ _ _ => F9)
  with_unfolding_all refine' For_invVF F9 ?k1 ?k2 ?_
  case k1 => exact rfl
  case k2 => exact rfl
  k_steps
  unfold Stop
  (rename Fr _ _ _ _ => F8); (rename News _ _ _ _ => N8); (rename IsRange _ _ _ _ _ _ _ _ => R8)
  refine iter_V low k rfl R8 (by omega) (by omega) F8 (News.del3 (News.tail' N8)) rfl (by omega) (by assumption) ?turn ?done
  case turn =>
    rintro I n i m news t h tk l1 hi hn ⟨D, os, nD, vs, nV, o, tl, u, items, rfl, rfl, ho, hI, hd, hl, hit, vd, di, t1, t2, t3⟩ F N
    simp only [AllLt, and_true] at l1
    have fl := flat_length low k items
    have vl := (dat_length hd).trans (List.length_map ..)
    k_steps
    all_goals unfold Stop
    all_goals (rename Fr _ _ _ _ => F6)
    all_goals (rename News _ _ _ _ => N6)
    all_goals (rename List.any _ _ = _ => A6)
    all_goals simp only [List.push_toArray] at N6
    · have nk := any_pos A6
      refine' turn_end2 F6 N6 nk ?hz rfl ?mD ?mV ?mS ?sub ?off ?ho ?hI ?h1 ?h1' ?h2 ?h2' hd hl hit ?vd t1 t2 ?pS ?pV
      case hz => exact Int.toNat_natCast _
      case mD => k_mem
      case mV => k_mem
      case mS => k_mem
      case ho => assumption
      case hI => assumption
      case sub => walk_at "MY sub"
      case off => walk_at "MY off"
      case h1 => assumption
      case h1' => assumption
      case vd => omega
      case h2 => assumption
      case h2' => assumption
      case pS => k_ne
      case pV => k_ne
    · have nk := any_neg A6
      refine' turn_end1 F6 N6 nk ?hzn rfl ?mDn ?mVn ?mSn ?subn ?offn ?hon ?hIn ?h1n ?h1'n hd hl hit ?vdn t1 t2
      case hzn => exact Int.toNat_natCast _
      case mDn => k_mem
      case mVn => k_mem
      case mSn => k_mem
      case hon => assumption
      case hIn => assumption
      case subn => walk_at "MY sub"
      case offn => walk_at "MY off"
      case h1n => assumption
      case h1'n => assumption
      case vdn => omega
  case done =>
    rintro I n m news h tk l1 hn ⟨D, os, nD, vs, nV, o, tl, u, items, rfl, rfl, ho, hI, hd, hl, hit, vd, di, t1, t2, t3⟩ F N
    simp only [AllLt, and_true] at l1
    k_steps
    (rename Fr _ _ _ _ => F6); (rename News _ _ _ _ => N6)
    (rename Keeps (List.map _ _) _ _ => K9)
    exact vals_fin (s := s) ret F6 N6 K9 (by omega) hit ho t1 hd hI (by k_ne) (by k_ne) (by k_ne) (by k_ne) (by k_ne) (by k_ne)
end
theorem octAt_mid {pre l post : List Int} {j : Nat} (hj : j < l.length) : octAt (pre ++ (l ++ post)) (pre.length + j) = l.getD j 0 := by
  unfold octAt
  rw [List.getD_eq_getElem?_getD, List.getElem?_append_right (Nat.le_add_right _ _), Nat.add_sub_cancel_left, List.getElem?_append_left hj, ← List.getD_eq_getElem?_getD]
theorem octs_lt {low : Bool} {x : Int} {sz : Nat} : ∀ k ∈ octsF low x sz, 0 ≤ k ∧ k < 256 := by
  have h : ∀ k ∈ (List.range sz).map (octF x sz), 0 ≤ k ∧ k < 256 := fun k hk => by
    obtain ⟨i, _, rfl⟩ := List.mem_map.mp hk
    exact ⟨Int.fmod_nonneg_of_pos _ (by decide), Int.fmod_lt_of_pos _ (by decide)⟩
  unfold octsF
  split
  · exact h
  · exact fun k hk => h k (List.mem_reverse.mp hk)
theorem num_back {low : Bool} {x : Int} {sz : Nat} {pre post : List Int} (hz : sz = 1 ∨ sz = 2 ∨ sz = 4) : numAt low (pre ++ (octsF low x sz ++ post)) pre.length sz = x % (256 ^ sz) := by
  have hat : ∀ j, j < sz → octAt (pre ++ (octsF low x sz ++ post)) (pre.length + j) = octF x sz (if low then j else sz - 1 - j) := fun j hj => by
    rw [octAt_mid (by rw [octsF_length]; exact hj), List.getD_eq_getElem?_getD]
    unfold octsF
    cases low
    · simp only [Bool.false_eq_true, if_false]
      rw [List.getElem?_reverse (by simpa using hj), List.length_map, List.length_range, List.getElem?_map, List.getElem?_range (by omega)]
      rfl
    · simp only [if_true]
      rw [List.getElem?_map, List.getElem?_range hj]
      rfl
  have hsum : numAt low (pre ++ (octsF low x sz ++ post)) pre.length sz = ((List.range sz).map fun k => octF x sz (sz - 1 - k)).foldl (fun a b => a * 256 + b) 0 := by
    unfold numAt
    congr 1
    apply List.map_congr_left
    intro k hk
    have hk := List.mem_range.mp hk
    cases low
    · simp only [Bool.false_eq_true, if_false]
      have := hat k hk
      simpa using this
    · simp only [if_true]
      rw [show pre.length + sz - 1 - k = pre.length + (sz - 1 - k) by omega]
      have := hat (sz - 1 - k) (by omega)
      simpa using this
  rw [hsum]
  have o : ∀ i, octF x sz i = x % (256 ^ sz) / (256 ^ i) % 256 := fun i => by
    unfold octF
    rw [Int.fmod_eq_emod_of_nonneg _ (by decide), Int.fdiv_eq_ediv_of_nonneg _ (Int.pow_nonneg (by decide)), Int.fmod_eq_emod_of_nonneg _ (Int.pow_nonneg (by decide))]
  simp only [o]
  clear hat hsum o
  have h0 : 0 ≤ x % (256 ^ sz) := Int.emod_nonneg _ (by rcases hz with rfl | rfl | rfl <;> decide)
  have h1 : x % (256 ^ sz) < 256 ^ sz := Int.emod_lt_of_pos _ (by rcases hz with rfl | rfl | rfl <;> decide)
  generalize x % (256 ^ sz) = y at h0 h1
  rcases hz with rfl | rfl | rfl
  · simp only [show List.range 1 = [0] from rfl, List.map_cons, List.map_nil, List.foldl_cons, List.foldl_nil, show (256 : Int) ^ (1 : Nat) = 256 from by decide, show (256 : Int) ^ (1 - 1 - 0 : Nat) = 1 from by decide] at h1 ⊢
    omega
  · simp only [show List.range 2 = [0, 1] from rfl, List.map_cons, List.map_nil, List.foldl_cons, List.foldl_nil, show (256 : Int) ^ (2 : Nat) = 65536 from by decide, show (256 : Int) ^ (2 - 1 - 0 : Nat) = 256 from by decide, show (256 : Int) ^ (2 - 1 - 1 : Nat) = 1 from by decide] at h1 ⊢
    omega
  · simp only [show List.range 4 = [0, 1, 2, 3] from rfl, List.map_cons, List.map_nil, List.foldl_cons, List.foldl_nil, show (256 : Int) ^ (4 : Nat) = 4294967296 from by decide, show (256 : Int) ^ (4 - 1 - 0 : Nat) = 16777216 from by decide, show (256 : Int) ^ (4 - 1 - 1 : Nat) = 65536 from by decide, show (256 : Int) ^ (4 - 1 - 2 : Nat) = 256 from by decide, show (256 : Int) ^ (4 - 1 - 3 : Nat) = 1 from by decide] at h1 ⊢
    omega
theorem octI_len {low : Bool} {k : Int} {p : Int × Int} (hk : K7 k) : (octI low k p).length = (usz k).toNat := by
  rcases hk with rfl | rfl | rfl | rfl | rfl | rfl | rfl <;> simp [octI, pairK, szF, usz, octsF_length]
theorem octI_lt {low : Bool} {k : Int} {p : Int × Int} : ∀ x ∈ octI low k p, 0 ≤ x ∧ x < 256 := by
  unfold octI
  split
  · intro x hx
    rcases List.mem_append.mp hx with hx | hx <;> exact octs_lt x hx
  · exact octs_lt
theorem signed_back {d : Int} (h0 : 0 ≤ d + 2147483648) (h1 : d + 2147483648 < 4294967296) : signedF (d % 4294967296) = d := by
  unfold signedF
  split <;> omega
theorem one_back {low : Bool} {k : Int} {p : Int × Int} {pre post : List Int} (hk : K7 k) (h1 : InK k p.1) (h2 : InK k p.2) : valD low (pre ++ (octI low k p ++ post)) pre.length k = datI k p := by
  have e4 : (256 : Int) ^ (4 : Nat) = 4294967296 := by decide
  have two : ∀ x y : Int, numAt low (pre ++ (octsF low x 4 ++ (octsF low y 4 ++ post))) pre.length 4 = x % 4294967296 ∧ numAt low (pre ++ (octsF low x 4 ++ (octsF low y 4 ++ post))) (pre.length + 4) 4 = y % 4294967296 := fun x y => by
    constructor
    · rw [num_back (by decide), e4]
    · have := num_back (low := low) (x := y) (sz := 4) (pre := pre ++ octsF low x 4) (post := post) (by decide)
      rw [List.length_append, octsF_length, e4] at this
      rw [← this, List.append_assoc]
  rcases hk with rfl | rfl | rfl | rfl | rfl | rfl | rfl
  all_goals simp only [InK, lowF, topF] at h1 h2
  · simp [valD, octI, datI, pairK, szF, usz, num_back]
    simp at h1; omega
  · simp [valD, octI, datI, pairK, szF, usz, num_back]
    simp at h1; omega
  · simp [valD, octI, datI, pairK, szF, usz, num_back]
    simp at h1; omega
  · simp only [valD, octI, datI, pairK, szF, pairD, true_or, if_true]
    simp at h1 h2
    simp [two]
    omega
  · simp [valD, octI, datI, pairK, szF, usz, num_back]
    simp at h1; omega
  · simp [valD, octI, datI, pairK, szF, num_back]
    simp at h1
    exact signed_back (by omega) (by omega)
  · simp only [valD, octI, datI, pairK, szF, pairD, or_true, if_true]
    simp at h1 h2
    simp [two]
    exact ⟨signed_back (by omega) (by omega), signed_back (by omega) (by omega)⟩
theorem flat_len {low : Bool} {k : Int} (hk : K7 k) : ∀ items : List (Int × Int), (items.flatMap (octI low k)).length = items.length * (usz k).toNat
  | [] => by simp
  | p :: r => by rw [List.flatMap_cons, List.length_append, flat_len hk r, octI_len hk, List.length_cons, Nat.add_mul]; omega
theorem vals_back {low : Bool} {k : Int} (hk : K7 k) : ∀ (items : List (Int × Int)) (pre post : List Int), (∀ p ∈ items, InK k p.1 ∧ InK k p.2) →
    (List.range items.length).map (fun (i : Nat) => valD low (pre ++ (items.flatMap (octI low k) ++ post)) ((pre.length : Int) + (i : Int) * usz k).toNat k) = items.map (datI k)
  | [], _, _, _ => rfl
  | p :: r, pre, post, h => by
    have kz : 0 ≤ usz k := by rcases hk with rfl | rfl | rfl | rfl | rfl | rfl | rfl <;> decide
    rw [List.length_cons, List.range_succ_eq_map, List.map_cons, List.map_map, List.map_cons]
    congr 1
    · rw [List.flatMap_cons, List.append_assoc, show ((pre.length : Int) + ((0 : Nat) : Int) * usz k).toNat = pre.length by simp]
      exact one_back hk (h p (.head _)).1 (h p (.head _)).2
    · rw [← vals_back hk r (pre ++ octI low k p) post fun q hq => h q (.tail _ hq)]
      apply List.map_congr_left
      intro i _
      simp only [Function.comp]
      rw [List.flatMap_cons, List.length_append, octI_len hk]
      congr 1
      · simp only [List.append_assoc]
      · rw [Int.natCast_add, Int.toNat_of_nonneg kz, Int.natCast_succ, Int.add_mul, Int.one_mul]
        congr 1
        omega
end
example {prog : Program} {w : World} {A : Around} {E : Value → Shared → Prop} {s : Shared} {env : Env} {Q : Flow → Shared → Prop} (h : Q .next s) : wpAny (model prog w) A (execs [] env) Q E s := by walk1; assumption
example : True := by w_top off; trivial
section
variable {w : World} {mean : ExcName → Option Value} {mg mb : Str → Option Value} {dp un : Nat} {gd : Option (List Code)} {base h₀ : Heap} {outer : List Env} {env : Env} {L : Addr} {m : Str → Option Value} {s : Shared}
  {news : List (Addr × Obj)} {nf : Obj → List (Addr × Obj)} {Q : Value → Shared → Prop} {E : Value → Shared → Prop}
theorem values_okK {B : Array UInt8} {bs : List Int} {pt p1 p2 p3 p4 : Tok} {pa k : Int} {n : Nat} {low : Bool} (S : Site w mean mg mb dp un base h₀ outer env L m s.heap 20) (N : News h₀ L s.heap news) (hB : KBw.bInts B = bs) (hk : K7 k) (h0 : 0 ≤ pa) (h1 : pa + n * usz k ≤ (bs.length : Int)) (h2 : bs.length < 500) (hn : n ≤ 100)
    (ret : ∀ a (xs : List Value) nn tl h' tk', Fr h₀ L h' m → News h₀ L h' (tl ++ news) → (a, listOf xs.toArray nn) ∈ tl → DatAll tl xs ((List.range n).map fun (i : Nat) => valD low bs (pa + (i : Int) * usz k).toNat k) → Q (.ref a) { s with heap := h', toks := tk' }) :
    wpAny (model Prg w) (Ar dp un gd env outer) (call (.ref 86) [.bytes B pt, .int pa p1, .int k p2, .int (n : Int) p3, .bytes (ordB low) p4]) Q E s :=
  values_ok S hB hk h0 h1 h2 hn fun v h' tk' tl k M D => by
    cases D with
    | list hm r => exact ret _ _ _ tl h' tk' (S.F.keeps k.all) (M.led S.F N k) hm r
theorem text_okK {B : Array UInt8} {bs : List Int} {O : Value} {pt p1 p2 p3 : Tok} {pa n : Int} {ts rs : List Int} (S : Site w mean mg mb dp un base h₀ outer env L m s.heap 20) (N : News h₀ L s.heap news) (hB : KBw.bInts B = bs) (h0 : 0 ≤ pa) (h1 : 0 ≤ n) (hn : pa + n ≤ (bs.length : Int)) (h2 : bs.length < 500)
    (hz : (bs.drop pa.toNat).take n.toNat = ts ++ 0 :: rs) (hz' : ∀ k ∈ ts, k ≠ 0)
    (ret : ∀ t h' tk', Fr h₀ L h' m → News h₀ L h' news → Q (.str (signsT ts) t) { s with heap := h', toks := tk' }) :
    wpAny (model Prg w) (Ar dp un gd env outer) (call (.ref 86) [.bytes B pt, .int pa p1, .int 2 p2, .int n p3, O]) Q E s :=
  text_ok S hB h0 h1 hn h2 hz hz' fun t h' tk' k => ret t h' tk' (S.F.keeps k.all) (N.grown k.all)
theorem pool_okK {Sc : Addr} {xs : List Value} {ns : List Int} (S : Site w mean mg mb dp un base h₀ outer env L m s.heap 8) (N : News h₀ L s.heap news) (hL : h₀.IsList Sc xs.toArray) (hi : IntsAre xs ns) (hn : ns.length ≤ 63)
    (ret : ∀ T o h' tk', SrcOk o → Fr h₀ L h' m → News h₀ L h' ((T, o) :: news) → (∀ p ∈ news, @Ne Nat p.1 T) → Q (.ref T) { s with heap := h', toks := tk' }) :
    wpAny (model Prg w) (Ar dp un gd env outer) (call (.ref 93) [.ref Sc]) Q E s :=
  pool_ok S hL hi hn fun T a b ta tb h' tk' ha hb0 hb k hT ho => ret T _ h' tk' ⟨a, b, ta, tb, rfl, ha, hb0, hb⟩ (S.F.keeps k.all) (News.made S.F N k hT ho) fun p hp q => by
    have z := (N p hp).1
    have q' : p.1 = T := q
    rw [q', hT] at z; cases z
theorem one_way {Sa T : Addr} {o : Obj} {k : Nat} {t1 t2 : Tok} (S : Site w mean mg mb dp un base h₀ outer env L m s.heap 8) (N : News h₀ L s.heap news) (U : UpdF Sa o news nf) (hm : (T, listOf #[.bytes #[73, 73] t1, .bytes #[77, 77] t2] k) ∈ news) (ne : @Ne Nat T Sa) (ho : SrcOk o)
    (ret : ∀ low t o' h' tk', SrcOk o' → Fr h₀ L h' m → News h₀ L h' (nf o') → Q (.bytes (ordB low) t) { s with heap := h', toks := tk' }) :
    wpAny (model Prg w) (Ar dp un gd env outer) (call (.ref 107) [.ref Sa, .ref T]) Q E s :=
  one_okS S N U hm ne ho (Nat.le_of_ble_eq_true rfl) (Nat.le_of_ble_eq_true rfl) fun i o' h' tk' hi ho' F N => by
    obtain rfl | rfl : i = 0 ∨ i = 1 := by have : i < 2 := hi; omega
    · exact ret true _ o' h' tk' ho' F N
    · exact ret false _ o' h' tk' ho' F N
theorem one_kind {Sa T : Addr} {o : Obj} {k : Nat} {t1 t2 t3 t4 t5 t6 t7 t8 : Tok} (S : Site w mean mg mb dp un base h₀ outer env L m s.heap 8) (N : News h₀ L s.heap news) (U : UpdF Sa o news nf) (hm : (T, listOf #[.int 1 t1, .int 2 t2, .int 3 t3, .int 4 t4, .int 5 t5, .int 7 t6, .int 9 t7, .int 10 t8] k) ∈ news) (ne : @Ne Nat T Sa) (ho : SrcOk o)
    (ret : ∀ k t o' h' tk', k = 2 ∨ K7 k → SrcOk o' → Fr h₀ L h' m → News h₀ L h' (nf o') → Q (.int k t) { s with heap := h', toks := tk' }) :
    wpAny (model Prg w) (Ar dp un gd env outer) (call (.ref 107) [.ref Sa, .ref T]) Q E s :=
  one_okS S N U hm ne ho (Nat.le_of_ble_eq_true rfl) (Nat.le_of_ble_eq_true rfl) fun i o' h' tk' hi ho' F N => by
    have hi : i < 8 := hi
    obtain rfl | rfl | rfl | rfl | rfl | rfl | rfl | rfl : i = 0 ∨ i = 1 ∨ i = 2 ∨ i = 3 ∨ i = 4 ∨ i = 5 ∨ i = 6 ∨ i = 7 := by omega
    · exact ret 1 _ o' h' tk' (.inr (.inl rfl)) ho' F N
    · exact ret 2 _ o' h' tk' (.inl rfl) ho' F N
    · exact ret 3 _ o' h' tk' (.inr (.inr (.inl rfl))) ho' F N
    · exact ret 4 _ o' h' tk' (.inr (.inr (.inr (.inl rfl)))) ho' F N
    · exact ret 5 _ o' h' tk' (.inr (.inr (.inr (.inr (.inl rfl))))) ho' F N
    · exact ret 7 _ o' h' tk' (.inr (.inr (.inr (.inr (.inr (.inl rfl)))))) ho' F N
    · exact ret 9 _ o' h' tk' (.inr (.inr (.inr (.inr (.inr (.inr (.inl rfl))))))) ho' F N
    · exact ret 10 _ o' h' tk' (.inr (.inr (.inr (.inr (.inr (.inr (.inr rfl))))))) ho' F N
theorem Made.ledS {h h' : Heap} {Sa : Addr} {o o' : Obj} {tl : List (Addr × Obj)} (M : Made tl h h') (F : Fr h₀ L h m) (N : News h₀ L h ((Sa, o) :: news)) (ne : ∀ p ∈ news, @Ne Nat p.1 Sa) (k : Keeps [Sa] h h') (ho : h'.get? Sa = some o') : News h₀ L h' ((Sa, o') :: (tl ++ news)) ∧ Fr h₀ L h' m ∧ ∀ p ∈ tl, @Ne Nat p.1 Sa := by
  refine ⟨fun p hp => ?_, ?_, fun p hp e => ?_⟩
  · rcases List.mem_cons.mp hp with rfl | hp
    · exact ⟨ho, (N (Sa, o) (.head _)).2⟩
    rcases List.mem_append.mp hp with q | q
    · refine ⟨(M p q).2, fun z => ?_, ?_⟩
      · obtain ⟨oL, _, _, hL, _⟩ := F.ns
        have := (M p q).1
        rw [z, hL] at this; cases this
      · cases z : h₀.get? p.1 with
        | none => rfl
        | some o => have := F.keep _ _ z; rw [(M p q).1] at this; cases this
    · have z := N p (.tail _ q)
      exact ⟨k _ _ z.1 fun y => ne p q (List.mem_singleton.mp y), z.2⟩
  · exact Fr.mut (news := [(Sa, o)]) (nf := fun o => [(Sa, o)]) F (fun p hp => N p (by rw [List.mem_singleton.mp hp]; exact .head _)) (by k_updF) k
  · have z := (N (Sa, o) (.head _)).1
    have z' := (M p hp).1
    have e' : p.1 = Sa := e
    rw [e'] at z'
    rw [z] at z'
    cases z'
theorem valuesN_K {Sa : Addr} {o : Obj} {k : Int} {p1 p2 : Tok} {low : Bool} (S : Site w mean mg mb dp un base h₀ outer env L m s.heap 20) (N : News h₀ L s.heap ((Sa, o) :: news)) (ne : ∀ p ∈ news, @Ne Nat p.1 Sa) (ho : SrcOk o) (hk : K7 k)
    (ret : ∀ (T V D : Addr) (vs os : List Value) (nV nD : Nat) (tl : List (Addr × Obj)) (items : List (Int × Int)) o' h' tk', items.length ≤ 4 → (∀ p ∈ items, InK k p.1 ∧ InK k p.2) → SrcOk o' → Fr h₀ L h' m →
      News h₀ L h' ((Sa, o') :: (T, ({ cls := .type "tuple", data := .seq #[.ref V, .ref D] } : Obj)) :: (D, listOf (List.toArray os) nD) :: (V, listOf (List.toArray vs) nV) :: (news ++ tl)) → @Ne Nat T Sa → @Ne Nat D Sa → @Ne Nat V Sa → (∀ p ∈ tl, @Ne Nat p.1 Sa) → DatAll tl vs (items.map (datI k)) → IntsAre os (items.flatMap (octI low k)) → Q (.ref T) { s with heap := h', toks := tk' }) :
    wpAny (model Prg w) (Ar dp un gd env outer) (call (.ref 124) [.ref Sa, .int k p1, .bytes (ordB low) p2]) Q E s :=
  valuesN0 S (fun p hp => N p (by rw [List.mem_singleton.mp hp]; exact .head _)) ho hk fun T V D vs os nV nD tl items o' h' tk' hl hit ho' kk hS M _ _ _ hd hI => by
    obtain ⟨N', F', ne'⟩ := Made.ledS M S.F N ne kk hS
    exact ret T V D vs os nV nD tl items o' h' tk' hl hit ho' F' (News.pick N' fun p hp => by simp only [List.mem_cons, List.mem_append] at hp ⊢; rcases hp with h | h | h | h | h | h <;> simp [h]) (ne' _ (.head _)) (ne' _ (.tail _ (.head _))) (ne' _ (.tail _ (.tail _ (.head _)))) (fun p hp => ne' p (.tail _ (.tail _ (.tail _ hp)))) hd hI
theorem valuesT_K {Sa : Addr} {o : Obj} {p1 : Tok} {O : Value} (S : Site w mean mg mb dp un base h₀ outer env L m s.heap 20) (N : News h₀ L s.heap ((Sa, o) :: news)) (ne : ∀ p ∈ news, @Ne Nat p.1 Sa) (ho : SrcOk o)
    (ret : ∀ (T D : Addr) (os : List Value) (nD : Nat) signs rest t o' h' tk', (∀ k ∈ signs, 1 ≤ k ∧ k < 256) → signs.length ≤ 6 → (∀ k ∈ rest, 0 ≤ k ∧ k < 256) → rest.length ≤ 2 → SrcOk o' → Fr h₀ L h' m →
      News h₀ L h' ((Sa, o') :: (T, ({ cls := .type "tuple", data := .seq #[.str (signsT signs) t, .ref D] } : Obj)) :: (D, listOf (List.toArray os) nD) :: news) → @Ne Nat T Sa → @Ne Nat D Sa → IntsAre os (signs ++ [0] ++ rest) → Q (.ref T) { s with heap := h', toks := tk' }) :
    wpAny (model Prg w) (Ar dp un gd env outer) (call (.ref 124) [.ref Sa, .int 2 p1, O]) Q E s :=
  valuesT0 S (fun p hp => N p (by rw [List.mem_singleton.mp hp]; exact .head _)) ho fun T D signs rest t ys n o' h' tk' h1 l1 h2 l2 ho' kk hS hT0 hT hD0 hD hI _ => by
    obtain ⟨N', F', ne'⟩ := Made.ledS (tl := [(T, ({ cls := .type "tuple", data := .seq #[.str (signsT signs) t, .ref D] } : Obj)), (D, listOf (List.toArray ys) n)]) (fun p hp => by
      rcases List.mem_cons.mp hp with rfl | hp
      · exact ⟨hT0, hT⟩
      · rw [List.mem_singleton.mp hp]; exact ⟨hD0, hD⟩) S.F N ne kk hS
    exact ret T D ys n signs rest t o' h' tk' h1 l1 h2 l2 ho' F' N' (ne' _ (.head _)) (ne' _ (.tail _ (.head _))) hI
end
example : True := by w_top off; trivial
theorem kqd_ne_same {prog : Program} {w : World} {A : Around} {E : Value → Shared → Prop} {s : Shared} {h₀ : Heap} {L a b : Addr} {news n₁ n₂ : List (Addr × Obj)} {xs ys : List Value} {ka kb : Nat} {ds : List Dat} {Q : Value → Shared → Prop} (N : News h₀ L s.heap news) (ma : (a, listOf xs.toArray ka) ∈ news) (Da : DatAll n₁ xs ds) (sa : ∀ p ∈ n₁, p ∈ news)
    (mb : (b, listOf ys.toArray kb) ∈ news) (Db : DatAll n₂ ys ds) (sb : ∀ p ∈ n₂, p ∈ news)
    (ha : ∀ d ∈ ds, kqdOk 8 d = true) (hu : A.units + 64 < cLine) (h : Q (.bool false) s) : wpAny (model prog w) A (compareOp .NotEq (.ref a) (.ref b)) Q E s :=
  kqd_ne N ma rfl rfl Da sa mb rfl rfl Db sb ha ha hu (by simpa using h)
theorem datI_ok {k : Int} {items : List (Int × Int)} : ∀ d ∈ items.map (datI k), kqdOk 8 d = true := fun d hd => by
  obtain ⟨p, _, rfl⟩ := List.mem_map.mp hd
  unfold datI
  split <;> rfl
theorem K7.ne2 {k : Int} (hk : K7 k) : k ≠ 2 := by
  rcases hk with rfl | rfl | rfl | rfl | rfl | rfl | rfl <;> decide
theorem in_app {a b : List Int} (ha : KBa.In a) (hb : KBa.In b) : KBa.In (a ++ b) := fun x hx => by
  rcases List.mem_append.mp hx with hx | hx
  · exact ha x hx
  · exact hb x hx
theorem in_flat {low : Bool} {k : Int} {items : List (Int × Int)} : KBa.In (items.flatMap (octI low k)) := fun x hx => by
  obtain ⟨p, _, hp⟩ := List.mem_flatMap.mp hx
  exact octI_lt x hp
theorem in_N {low : Bool} {k : Int} {items : List (Int × Int)} {os : List Value} {ah : List Int} (_ : IntsAre os (items.flatMap (octI low k))) (ha : ∀ x ∈ ah, 0 ≤ x ∧ x < 256) : KBa.In (ah ++ items.flatMap (octI low k) ++ [7, 0]) :=
  in_app (in_app ha in_flat) fun x hx => by
    rcases List.mem_cons.mp hx with rfl | hx
    · decide
    · rw [List.mem_singleton.mp hx]; decide
theorem len_N {low : Bool} {k : Int} {items : List (Int × Int)} {os : List Value} {ah : List Int} (_ : IntsAre os (items.flatMap (octI low k))) (hk : K7 k) : (ah.length : Int) + items.length * usz k + 2 = ((ah ++ items.flatMap (octI low k) ++ [7, 0]).length : Int) ∧ (ah.length : Int) + items.length * usz k = ((ah ++ items.flatMap (octI low k)).length : Int) := by
  have kz : 0 ≤ usz k := by rcases hk with rfl | rfl | rfl | rfl | rfl | rfl | rfl <;> decide
  rw [List.length_append, List.length_append, flat_len hk, Int.natCast_add, Int.natCast_add, Int.natCast_mul, Int.toNat_of_nonneg kz]
  exact ⟨rfl, rfl⟩
theorem fl_N {low : Bool} {k : Int} {items : List (Int × Int)} {os : List Value} (_ : IntsAre os (items.flatMap (octI low k))) : (items.flatMap (octI low k)).length ≤ 8 * items.length := flat_length low k items
theorem ints_dat {tl : List (Addr × Obj)} : ∀ {vs : List Value} {ns : List Int}, IntsAre vs ns → DatAll tl vs (ns.map Dat.int)
  | _, _, .nil => .nil
  | _, _, .cons k t h => .cons (.int _ _) (ints_dat h)
theorem ints_ok {ns : List Int} : ∀ d ∈ ns.map Dat.int, kqdOk 8 d = true := fun d hd => by
  obtain ⟨p, _, rfl⟩ := List.mem_map.mp hd
  rfl
theorem ne_empty {prog : Program} {w : World} {A : Around} {E : Value → Shared → Prop} {s : Shared} {h₀ : Heap} {L a b : Addr} {news : List (Addr × Obj)} {xs : List Value} {ka kb : Nat} {ns : List Int} {Q : Value → Shared → Prop} (N : News h₀ L s.heap news) (ma : (a, listOf xs.toArray ka) ∈ news) (hi : IntsAre xs ns)
    (mb : (b, listOf #[] kb) ∈ news) (hu : A.units + 64 < cLine) (h0 : ns = [] → Q (.bool false) s) (h1 : ns ≠ [] → Q (.bool true) s) : wpAny (model prog w) A (compareOp .NotEq (.ref a) (.ref b)) Q E s :=
  kqd_ne (n₁ := []) (n₂ := []) (ys := []) (es := []) N ma rfl rfl (ints_dat hi) (by simp) mb rfl rfl .nil (by simp) ints_ok (by simp) hu (by
    by_cases e : ns = []
    · simpa [e] using h0 e
    · simpa [e] using h1 e)
theorem News.dropA {h₀ h : Heap} {L : Addr} {x l : List (Addr × Obj)} (N : News h₀ L h (x ++ l)) : News h₀ L h l := News.pick N fun p hp => List.mem_append_right _ hp
theorem pos_N {low : Bool} {k : Int} {items : List (Int × Int)} (ah : List Int) (h : items.flatMap (octI low k) ≠ []) : 1 ≤ (ah ++ items.flatMap (octI low k)).length ∧ 1 ≤ items.length := by
  constructor
  · have := List.length_pos_iff.mpr h
    rw [List.length_append]; omega
  · cases items with
    | nil => exact absurd rfl h
    | cons _ _ => simp
theorem text_cut (ah tb : List Int) : ((ah ++ tb ++ [0]).drop ((ah.length : Int)).toNat).take ((tb.length : Int)).toNat = tb := by
  rw [Int.toNat_natCast, Int.toNat_natCast, List.append_assoc, List.drop_left, List.take_left]
theorem in_T {ah tb : List Int} (ha : ∀ x ∈ ah, 0 ≤ x ∧ x < 256) (hb : ∀ x ∈ tb, 1 ≤ x ∧ x < 256) : KBa.In (ah ++ tb ++ [0]) :=
  in_app (in_app ha fun x hx => ⟨by have := (hb x hx).1; omega, (hb x hx).2⟩) fun x hx => by rw [List.mem_singleton.mp hx]; decide
theorem in_T1 {ah signs rest : List Int} (ha : ∀ x ∈ ah, 0 ≤ x ∧ x < 256) (hs : ∀ x ∈ signs, 1 ≤ x ∧ x < 256) (hr : ∀ x ∈ rest, 0 ≤ x ∧ x < 256) : KBa.In (ah ++ (signs ++ [0] ++ rest)) :=
  in_app ha (in_app (in_app (fun x hx => ⟨by have := (hs x hx).1; omega, (hs x hx).2⟩) fun x hx => by rw [List.mem_singleton.mp hx]; decide) hr)
theorem in_70 : KBa.In [7, 0] := fun x hx => by
  rcases List.mem_cons.mp hx with rfl | hx
  · decide
  · rw [List.mem_singleton.mp hx]; decide
theorem cut_T {ah signs rest : List Int} {n : Int} (hn : n = ((signs ++ [0] ++ rest).length : Int)) : ((ah ++ (signs ++ [0] ++ rest) ++ [7, 0]).drop ((ah.length : Int)).toNat).take n.toNat = signs ++ 0 :: rest := by
  have e : signs ++ 0 :: rest = signs ++ [0] ++ rest := by simp
  rw [e, hn]
  generalize signs ++ [0] ++ rest = X
  rw [Int.toNat_natCast, Int.toNat_natCast, List.append_assoc, List.drop_left, List.take_left]
def IfEnd (g : Heap) (L : Addr) (m : Str → Option Value) (news : List (Addr × Obj)) (s : Shared) (fl : Flow) (s' : Shared) : Prop := fl = .next ∧ ∃ h tk, s' = { s with heap := h, toks := tk } ∧ Fr g L h m ∧ News g L h news
theorem IfEnd.intro {g h : Heap} {L : Addr} {m : Str → Option Value} {news : List (Addr × Obj)} {s : Shared} {tk : Nat} (F : Fr g L h m) (N : News g L h news) : IfEnd g L m news s .next { s with heap := h, toks := tk } := ⟨rfl, h, tk, rfl, F, N⟩
theorem if_cut {prog : Program} {w : World} {A : Around} {E : Value → Shared → Prop} {st : Stmt} {env : Env} {Q : Flow → Shared → Prop} {s : Shared} {g : Heap} {L : Addr} {m : Str → Option Value} {news : List (Addr × Obj)} (F : Fr g L s.heap m) (N : News g L s.heap news)
    (h : wpAny (model prog w) A (exec st env) (IfEnd g L m news s) E s) (k : ∀ h tk, Fr g L h m → News g L h news → Q .next { s with heap := h, toks := tk }) : wpAny (model prog w) A (exec st env) Q E s :=
  wpAny_mono h (fun fl s' hq => by
    obtain ⟨rfl, h, tk, rfl, F', N'⟩ := hq
    exact k h tk F' N') fun _ _ e => e
theorem Fr.shrink {g h : Heap} {L : Addr} {m : Str → Option Value} {a b : Value} (F : Fr g L h m) (ha : m "ahead" = some a) (hb : m "way" = some b) : ∃ m₀ : Str → Option Value, Fr g L h (fun (y : Str) => if y = "ahead" then some a else if y = "way" then some b else m₀ y) := by
  refine ⟨m, ?_⟩
  have e : m = fun (y : Str) => if y = "ahead" then some a else if y = "way" then some b else m y := by
    funext y
    by_cases e1 : y = "ahead"
    · rw [if_pos e1, e1, ha]
    · rw [if_neg e1]
      by_cases e2 : y = "way"
      · rw [if_pos e2, e2, hb]
      · rw [if_neg e2]
  exact e ▸ F
theorem not1 {a T : Addr} (h : @Ne Nat a T) : a ∉ [T] := fun e => h (List.mem_singleton.mp e)
local macro_rules | `(tactic| k_all) => `(tactic| assumption)
local macro_rules | `(tactic| walk_at "MY site") => `(tactic| (refine' Site.mk ⟨callerA, below_caller _⟩ ?s2 ?s3 ?s4 ?s5 ?s6 ?s7 ?s8; (case s2 => k_asm); (case s3 => k_asm); (case s4 => k_asm); (case s5 => exact rfl); (case s6 => exact rfl); (case s7 => exact Nat.le_of_ble_eq_true rfl); (case s8 => exact Nat.le_of_ble_eq_true rfl)))
theorem sub1 {α : Type} {p : α} {l all : List α} (h : p ∈ all) (hl : ∀ q ∈ l, q ∈ all) : ∀ q ∈ [p] ++ l, q ∈ all := fun q hq => by
  rcases List.mem_cons.mp hq with rfl | hq
  · exact h
  · exact hl q hq
local macro_rules | `(tactic| walk_at "MY sub") => `(tactic| ((repeat' (refine List.forall_mem_cons.mpr ⟨by k_mem, ?_⟩)); first | exact List.forall_mem_nil _ | (intro p hp; repeat (first | exact hp | refine List.mem_cons_of_mem _ ?_))))
local macro_rules | `(tactic| walk_at "call ref") => `(tactic| (k_here; (with_reducible show wpAny _ _ (call (Value.ref 86) _) _ _ _); refine stop_in ?_))
local macro_rules | `(tactic| walk_at "call ref") => `(tactic| (k_here; (with_reducible show wpAny _ _ (call (Value.ref 93) _) _ _ _); refine stop_in ?_))
local macro_rules | `(tactic| walk_at "call ref") => `(tactic| (k_here; (with_reducible show wpAny _ _ (call (Value.ref 124) _) _ _ _); refine stop_in ?_))
local macro_rules | `(tactic| walk_at "call ref") => `(tactic| (k_here; (with_reducible show wpAny _ _ (call (Value.ref 131) _) _ _ _); refine stop_in ?_))
local macro_rules | `(tactic| walk_at "exec If") => `(tactic| (k_here; (with_reducible show wpAny _ _ (exec (Stmt.If (Expr.BoolOp _ _ _) _ _ _) _) _ _ _); refine stop_in ?_))
local macro_rules | `(tactic| walk_at "compareOp NotEq ref ref") => `(tactic| (k_here; refine stop_in ?_))
local macro_rules | `(tactic| walk_at "call builtin:len") => `(tactic| (k_here; (with_reducible show wpAny _ _ (call (Value.builtin "len") [Value.ref _]) _ _ _); k_dflt (refine' kd_len ?k1 ?k2 ?k3 ?k4 ?_; (case k1 => k_asm); (case k2 => k_mem); (case k3 => with_reducible assumption); (case k4 => ((simp only [List.length_map]); omega))); (try simp only [List.length_map])))
local macro_rules | `(tactic| walk_at "call ref") => `(tactic| (k_here; (with_reducible show wpAny _ _ (call (Value.ref 107) _) _ _ _); k_dflt (first
  | (refine' one_way ?S ?N ?U ?m ?ne ?a0 ?_; (case S => walk_at "MY site"); (case N => k_asm); (case U => k_updF); (case m => exact .head _); (case ne => k_ne); (case a0 => assumption); intro low' t' o' h' tk' a0' F' N')
  | (refine' one_kind ?S ?N ?U ?m ?ne ?a0 ?_; (case S => walk_at "MY site"); (case N => k_asm); (case U => k_updF); (case m => exact .head _); (case ne => k_ne); (case a0 => assumption); intro k' t' o' h' tk' hk' a0' F' N')); (try dsimp only at N'); (try k_sweep); (try dsimp only)))
theorem law_holds : PySem.Challenge.rw_xm0809_01.Holds := hd (by
  w_strict (k_go0; (all_goals try k_fold)
            (rename IntsAre _ _ => I0); (rename Heap.IsList _ _ _ => L0)
            (rename Fr _ _ _ _ => F0); (rename Obj.data _ = _ => d0)
            have F1 : Fr _ _ _ (fun y => if y = "script" then some (.ref _) else none) := F0
            have d1 : Obj.data _ = Data.cell none := d0
            clear F0 d0
            k_steps
            unfold Stop
            k_dflt (refine' values_okK (low := false) (n := 1) (bs := [255, 255, 255, 255, 0, 0, 0, 1]) ?vS ?vN ?vB ?vk ?v0 ?v1 ?v2 ?vn ?_)
            case vS => walk_at "MY site"
            case vN => k_asm
            case vB => decide +kernel
            case vk => (unfold K7; omega)
            case v0 => decide
            case v1 => decide
            case v2 => decide
            case vn => decide
            rintro a xs nn tl h' tk' F9 N9 ha hd9
            have hd9 : DatAll tl xs [.tuple [.int (-1), .int 1]] := hd9
            k_steps
            unfold Stop
            (rename News _ _ _ _ => N8)
            refine kqd_ne_same N8 (.tail _ (.tail _ (List.mem_append_left _ ha))) hd9 (fun p hp => .tail _ (.tail _ (List.mem_append_left _ hp))) (.head _) (.cons (.tuple (.tail _ (.head _)) (.cons (.int _ _) (.cons (.int _ _) .nil))) .nil) (fun _ h => h) (fun d hd => by rw [List.mem_singleton.mp hd]; rfl) (Nat.le_of_ble_eq_true rfl) ?_
            k_steps
            unfold Stop
            (rename News _ _ _ _ => N7)
            have N6 := News.pick N7 (l' := [_]) (fun p hp => by rw [List.mem_singleton.mp hp]; exact .tail _ (.tail _ (List.mem_append_right _ (.tail _ (.head _)))))
            clear N7 hd9 ha
            k_dflt (refine' pool_okK ?uS N6 L0 I0 ?ul ?_)
            case uS => walk_at "MY site"
            case ul => omega
            intro T o h' tk' ho F' N' ne'
            have ne1 := ne' _ (.head _)
            dsimp only at ne1
            k_steps
            unfold Stop
            (rename _ = _ ∨ K7 _ => hk9); (rename News _ _ _ _ => N5)
            rcases hk9 with rfl | hk9
            · skip
              have N4 := News.pick N5 (l' := [_, _]) (fun p hp => .tail _ (.tail _ (.tail _ hp)))
              clear N5
              k_dflt (refine' valuesT_K ?tS N4 ?tn ?th ?_)
              case tS => walk_at "MY site"
              case tn => exact fun p hp => by rw [List.mem_singleton.mp hp]; exact ne1
              case th => assumption
              intro T2 D os nD signs rest t o' h' tk' hp1 hl1 hp2 hl2 ho' F' N' n1 n2 hI'
              have hlo : (signs ++ [0] ++ rest).length = signs.length + 1 + rest.length := by simp only [List.length_append, List.length_cons, List.length_nil]
              k_steps
              unfold Stop
              (rename Fr _ _ _ _ => F9); (rename News _ _ _ _ => N9)
              refine Assign_range (as := [T]) (Inv := fun σ => ∃ o, σ = [(T, o)] ∧ SrcOk o) (R := fun i y => ∃ k t, y = .int k t ∧ 0 ≤ k ∧ k < 256) (fun n => n ≤ 3) rfl F9 (News.tail' N9) rfl ?tqoff (fun n e => by omega) (by with_unfolding_all rfl) (by with_unfolding_all rfl) (by decide) (by rfl) (by decide) (by rfl) (by rfl) (by rfl) ?tqh ?tqturn ?tqfin
              case tqoff => exact List.forall_mem_cons.mpr ⟨not1 n1, List.forall_mem_cons.mpr ⟨not1 n2, List.forall_mem_cons.mpr ⟨not1 ne1, List.forall_mem_nil _⟩⟩⟩
              case tqh =>
                k_steps
                (rename News _ _ _ _ => N8)
                refine rangeM_of [(T, _)] (by assumption) (by assumption) (by omega) (by assumption) N8 (sub1 (by k_mem) (by walk_at "MY sub")) rfl ⟨_, rfl, by assumption⟩
              case tqturn =>
                rintro i n t C oC m₂ h tk E' σ hn hi ⟨o, rfl, ho⟩ ha hC hx F N ne
                simp only [List.cons_append, List.nil_append] at N
                have ne' : @Ne Nat C T := ne T (.head _)
                k_steps
                (rename News _ _ _ _ => N8)
                exact elM_of (by assumption) N8 (by k_mem) (by assumption) ⟨_, _, rfl, by omega, by omega⟩
              case tqfin =>
                rintro A ya σ h tk hlah hyah ⟨oah, rfl, hoah⟩ haah Fah Nah offah
                simp only [List.cons_append, List.nil_append] at Nah
                obtain ⟨ah, hIah, hPah⟩ := ints_ex hyah
                have hLah := hIah.length
                clear F9 N9
                have nA : @Ne Nat A T := Ne.symm (offah (T, oah) (.head _))
                have hb0 := in_T1 hPah hp1 hp2
                have hb1 := in_app hb0 in_70
                k_steps
                unfold Stop
                k_dflt (refine' text_okK (ts := signs) (rs := rest) ?eS ?eN (KBa.ints_make hb1) ?e0 ?e1 ?e2 ?e3 (cut_T ?e4) ?e5 ?_)
                case eS => walk_at "MY site"
                case eN => k_asm
                case e0 => omega
                case e1 => omega
                case e2 => (simp only [List.length_append, List.length_cons, List.length_nil]; omega)
                case e3 => (simp only [List.length_append, List.length_cons, List.length_nil]; omega)
                case e4 => rw [hlo]
                case e5 => exact fun x hx e => absurd (hp1 x hx).1 (by omega)
                intro t2 h2 tk2 F2 N2
                have N3 := News.tail' (News.tail' (News.tail' N2))
                clear N2
                k_steps
                unfold Stop
                refine wpAny_If ?_
                k_steps
                unfold Stop
                (rename News _ _ _ _ => N8)
                refine ne_empty N8 (by k_mem) hI' (.head _) (Nat.le_of_ble_eq_true rfl) (fun eN => absurd eN (by simp)) fun eN => ?_
                have N3 := News.tail' N8
                clear N8
                k_steps
                unfold Stop
                (rename IntsAre _ (List.take _ _) => hI3)
                k_dflt (refine' refused_okK ?fS ?fN (.head _) hI3 (fun x hx => hb0 x (List.mem_of_mem_take hx)) ?fl (refuses_text1 ?f0 ?f1 ?f2 ?f3 ?f4) ?_)
                case fS => walk_at "MY site"
                case fN => k_asm
                case fl => (simp only [List.length_take, List.length_append, List.length_cons, List.length_nil]; omega)
                case f0 => omega
                case f1 => (simp only [List.length_take, List.length_append, List.length_cons, List.length_nil]; omega)
                case f2 => (simp only [List.length_take, List.length_append, List.length_cons, List.length_nil]; omega)
                case f3 => (simp only [List.length_take, List.length_append, List.length_cons, List.length_nil]; omega)
                case f4 => omega
                intro h5 tk5 F5 N5
                have N3 := News.swap (News.tail' (News.tail' N5))
                clear N5
                k_steps
                unfold Stop
                (rename Fr _ _ _ _ => F9); (rename News _ _ _ _ => N9)
                obtain ⟨m₀, F7z⟩ := Fr.shrink F9 rfl rfl
                have N7z := News.pick N9 (List.forall_mem_cons.mpr ⟨.head _, List.forall_mem_cons.mpr ⟨.tail _ (.head _), List.forall_mem_cons.mpr ⟨.tail _ (.tail _ (.tail _ (.tail _ (.head _)))), List.forall_mem_nil _⟩⟩⟩)
                clear F9 N9
                (rename Fr _ _ _ _ => F9); (rename News _ _ _ _ => N9)
                refine Assign_range (as := [T]) (Inv := fun σ => ∃ o, σ = [(T, o)] ∧ SrcOk o) (R := fun i y => ∃ k t, y = .int k t ∧ 1 ≤ k ∧ k < 256) (fun n => n ≤ 3) rfl F9 (News.tail' N9) rfl ?tgoff (fun n e => by omega) (by with_unfolding_all rfl) (by with_unfolding_all rfl) (by decide) (by rfl) (by decide) (by rfl) (by rfl) (by rfl) ?tgh ?tgturn ?tgfin
                case tgoff => exact List.forall_mem_cons.mpr ⟨not1 nA, List.forall_mem_cons.mpr ⟨not1 ne1, List.forall_mem_nil _⟩⟩
                case tgh =>
                  k_steps
                  (rename News _ _ _ _ => N8)
                  refine rangeM_of [(T, _)] (by assumption) (by assumption) (by omega) (by assumption) N8 (sub1 (by k_mem) (by walk_at "MY sub")) rfl ⟨_, rfl, by assumption⟩
                case tgturn =>
                  rintro i n t C oC m₂ h tk E' σ hn hi ⟨o, rfl, ho⟩ ha hC hx F N ne
                  simp only [List.cons_append, List.nil_append] at N
                  have ne' : @Ne Nat C T := ne T (.head _)
                  k_steps
                  (rename News _ _ _ _ => N8)
                  exact elM_of (by assumption) N8 (by k_mem) (by assumption) ⟨_, _, rfl, by omega, by omega⟩
                case tgfin =>
                  rintro B yb σ h tk hltb hytb ⟨otb, rfl, hotb⟩ hatb Ftb Ntb offtb
                  simp only [List.cons_append, List.nil_append] at Ntb
                  obtain ⟨tb, hItb, hPtb⟩ := ints_ex hytb
                  have hLtb := hItb.length
                  clear F9 N9
                  have hb2 := in_T hPah hPtb
                  k_steps
                  unfold Stop
                  (rename IntsAre _ (_ ++ [0]) => hI4)
                  k_dflt (refine' refused_okK ?tgS ?tgN (.head _) hI4 hb2 ?tgl (refuses_text2 ?tg0 ?tg1 ?tg2 ?tg3 ?tg4) ?_)
                  case tgS => walk_at "MY site"
                  case tgN => k_asm
                  case tgl => (simp only [List.length_append, List.length_cons, List.length_nil]; omega)
                  case tg0 => omega
                  case tg1 => omega
                  case tg2 => (simp only [List.length_append, List.length_cons, List.length_nil]; omega)
                  case tg3 => (simp only [List.length_append, List.length_cons, List.length_nil]; omega)
                  case tg4 =>
                    rw [text_cut]
                    exact fun x hx e => absurd (hPtb x hx).1 (by omega)
                  intro h6 tk6 F6 N6
                  k_steps
            · skip
              have N4 := News.pick N5 (l' := [_, _]) (fun p hp => .tail _ (.tail _ (.tail _ hp)))
              clear N5
              have k2 : _ ≠ (2 : Int) := K7.ne2 hk9
              k_dflt (refine' valuesN_K ?nS N4 ?nn ?nh hk9 ?_)
              case nS => walk_at "MY site"
              case nn => exact fun p hp => by rw [List.mem_singleton.mp hp]; exact ne1
              case nh => assumption
              intro T2 V D vs os nV nD tl items o' h' tk' hl hit ho' F' N' n1 n2 n3 n4 hd hI'
              simp only [List.cons_append, List.nil_append] at N'
              have fl := fl_N hI'
              k_steps
              · exact absurd (by assumption) k2
              unfold Stop
              (rename Fr _ _ _ _ => F9); (rename News _ _ _ _ => N9)
              refine Assign_range (as := [T]) (Inv := fun σ => ∃ o, σ = [(T, o)] ∧ SrcOk o) (R := fun i y => ∃ k t, y = .int k t ∧ 0 ≤ k ∧ k < 256) (fun n => n ≤ 3) rfl F9 (News.tail' N9) rfl ?nqoff (fun n e => by omega) (by with_unfolding_all rfl) (by with_unfolding_all rfl) (by decide) (by rfl) (by decide) (by rfl) (by rfl) (by rfl) ?nqh ?nqturn ?nqfin
              case nqoff => exact List.forall_mem_cons.mpr ⟨not1 n1, List.forall_mem_cons.mpr ⟨not1 n2, List.forall_mem_cons.mpr ⟨not1 n3, List.forall_mem_cons.mpr ⟨not1 ne1, fun p hp => not1 (n4 p hp)⟩⟩⟩⟩
              case nqh =>
                k_steps
                (rename News _ _ _ _ => N8)
                refine rangeM_of [(T, _)] (by assumption) (by assumption) (by omega) (by assumption) N8 (sub1 (by k_mem) (by walk_at "MY sub")) rfl ⟨_, rfl, by assumption⟩
              case nqturn =>
                rintro i n t C oC m₂ h tk E' σ hn hi ⟨o, rfl, ho⟩ ha hC hx F N ne
                simp only [List.cons_append, List.nil_append] at N
                have ne' : @Ne Nat C T := ne T (.head _)
                k_steps
                (rename News _ _ _ _ => N8)
                exact elM_of (by assumption) N8 (by k_mem) (by assumption) ⟨_, _, rfl, by omega, by omega⟩
              case nqfin =>
                rintro A ya σ h tk hlah hyah ⟨oah, rfl, hoah⟩ haah Fah Nah offah
                simp only [List.cons_append, List.nil_append] at Nah
                obtain ⟨ah, hIah, hPah⟩ := ints_ex hyah
                have hLah := hIah.length
                clear F9 N9
                have nA : @Ne Nat A T := Ne.symm (offah (T, oah) (.head _))
                have hb1 := in_N hI' hPah
                have ⟨hn1, hn2⟩ := len_N (ah := ah) hI' hk9
                k_steps
                unfold Stop
                k_dflt (refine' values_okK ?gS ?gN (KBa.ints_make hb1) hk9 ?g0 ?g1 ?g2 ?gn ?_)
                case gS => walk_at "MY site"
                case gN => k_asm
                case g0 => omega
                case g1 => omega
                case g2 => (simp only [List.length_append, List.length_cons, List.length_nil]; omega)
                case gn => omega
                intro a2 xs2 nn2 tl2 h2 tk2 F2 N2 ha2 hd2
                rw [List.append_assoc, vals_back hk9 items ah [7, 0] hit] at hd2
                k_steps
                unfold Stop
                (rename News _ _ _ _ => N8)
                refine kqd_ne_same N8 (List.mem_append_left _ ha2) hd2 (fun p hp => List.mem_append_left _ hp) (List.mem_append_right _ (by k_mem)) hd (fun p hp => List.mem_append_right _ (.tail _ (.tail _ (.tail _ (.tail _ (.tail _ (.tail _ (.tail _ (.tail _ (.tail _ hp)))))))))) datI_ok (Nat.le_of_ble_eq_true rfl) ?_
                have N3 := News.tail' (News.tail' (News.tail' (News.dropA N8)))
                clear N8 ha2 hd2
                k_steps
                unfold Stop
                (rename Fr _ _ _ _ => F7); (rename News _ _ _ _ => N7)
                refine if_cut F7 N7 ?first ?second
                case first =>
                  refine wpAny_If ?_
                  k_steps
                  unfold Stop
                  (rename News _ _ _ _ => N8)
                  refine ne_empty N8 (by k_mem) hI' (.head _) (Nat.le_of_ble_eq_true rfl) (fun eN => ?_) fun eN => ?_
                  · have N3 := News.tail' N8
                    clear N8
                    k_steps
                    (rename Fr _ _ _ _ => F8)
                    exact IfEnd.intro F8 N3
                  · have N3 := News.tail' N8
                    clear N8
                    have ⟨hx1, hx2⟩ := pos_N ah eN
                    k_steps
                    unfold Stop
                    (rename IntsAre _ (List.take _ _) => hI3)
                    k_dflt (refine' refused_okK ?rS ?rN (.head _) hI3 (fun x hx => in_app hPah in_flat x (List.mem_of_mem_take hx)) ?rl (refuses_values hk9 ?r0 hx2 ?r2 ?r3 ?r4) ?_)
                    case rS => walk_at "MY site"
                    case rN => k_asm
                    case rl => (simp only [List.length_take, List.length_append]; omega)
                    case r0 => omega
                    case r2 => (rw [List.length_take]; omega)
                    case r3 => (simp only [List.length_take, List.length_append]; omega)
                    case r4 => omega
                    intro h5 tk5 F5 N5
                    k_steps
                    exact IfEnd.intro F5 (News.tail' (News.tail' N5))
                case second =>
                  intro h4 tk4 F4 N4
                  have N3 := News.swap N4
                  clear N4 N7 F7
                  k_steps
                  unfold Stop
                  (rename Fr _ _ _ _ => F9); (rename News _ _ _ _ => N9)
                  obtain ⟨m₀, F7z⟩ := Fr.shrink F9 rfl rfl
                  have N7z := News.pick N9 (List.forall_mem_cons.mpr ⟨.head _, List.forall_mem_cons.mpr ⟨.tail _ (.head _), List.forall_mem_cons.mpr ⟨.tail _ (.tail _ (.tail _ (.tail _ (.tail _ (.head _))))), List.forall_mem_nil _⟩⟩⟩)
                  clear F9 N9
                  (rename Fr _ _ _ _ => F9); (rename News _ _ _ _ => N9)
                  refine Assign_range (as := [T]) (Inv := fun σ => ∃ o, σ = [(T, o)] ∧ SrcOk o) (R := fun i y => ∃ k t, y = .int k t ∧ 1 ≤ k ∧ k < 256) (fun n => n ≤ 3) rfl F9 (News.tail' N9) rfl ?nboff (fun n e => by omega) (by with_unfolding_all rfl) (by with_unfolding_all rfl) (by decide) (by rfl) (by decide) (by rfl) (by rfl) (by rfl) ?nbh ?nbturn ?nbfin
                  case nboff => exact List.forall_mem_cons.mpr ⟨not1 nA, List.forall_mem_cons.mpr ⟨not1 ne1, List.forall_mem_nil _⟩⟩
                  case nbh =>
                    k_steps
                    (rename News _ _ _ _ => N8)
                    refine rangeM_of [(T, _)] (by assumption) (by assumption) (by omega) (by assumption) N8 (sub1 (by k_mem) (by walk_at "MY sub")) rfl ⟨_, rfl, by assumption⟩
                  case nbturn =>
                    rintro i n t C oC m₂ h tk E' σ hn hi ⟨o, rfl, ho⟩ ha hC hx F N ne
                    simp only [List.cons_append, List.nil_append] at N
                    have ne' : @Ne Nat C T := ne T (.head _)
                    k_steps
                    (rename News _ _ _ _ => N8)
                    exact elM_of (by assumption) N8 (by k_mem) (by assumption) ⟨_, _, rfl, by omega, by omega⟩
                  case nbfin =>
                    rintro B yb σ h tk hltb hytb ⟨otb, rfl, hotb⟩ hatb Ftb Ntb offtb
                    simp only [List.cons_append, List.nil_append] at Ntb
                    obtain ⟨tb, hItb, hPtb⟩ := ints_ex hytb
                    have hLtb := hItb.length
                    clear F9 N9
                    have hb2 := in_T hPah hPtb
                    k_steps
                    unfold Stop
                    (rename IntsAre _ (_ ++ [0]) => hI4)
                    k_dflt (refine' refused_okK ?nbS ?nbN (.head _) hI4 hb2 ?nbl (refuses_text2 ?nb0 ?nb1 ?nb2 ?nb3 ?nb4) ?_)
                    case nbS => walk_at "MY site"
                    case nbN => k_asm
                    case nbl => (simp only [List.length_append, List.length_cons, List.length_nil]; omega)
                    case nb0 => omega
                    case nb1 => omega
                    case nb2 => (simp only [List.length_append, List.length_cons, List.length_nil]; omega)
                    case nb3 => (simp only [List.length_append, List.length_cons, List.length_nil]; omega)
                    case nb4 =>
                      rw [text_cut]
                      exact fun x hx e => absurd (hPtb x hx).1 (by omega)
                    intro h6 tk6 F6 N6
                    k_steps))
end Mine
theorem PySem.Challenge.cw_xm0809_01_holds : PySem.Challenge.rw_xm0809_01.Holds := by
  exact Mine.law_holds
