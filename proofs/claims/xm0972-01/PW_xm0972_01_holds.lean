import PyProof.Rows.All
import Wide.All
import OpenK.AllK
import Wide.FinOn
import PySem.Challenge.RW_xm0972_01
open PySem PySem.Spec PySem.Calls PySem.W PyProof.Rows
set_option Elab.async false
set_option maxRecDepth 100000
set_option maxHeartbeats 8000000
namespace Mine
open_top hd for PySem.Challenge.rw_xm0972_01
end Mine
namespace Mine
def Does (w : World) (mean : ExcName → Option Value) (mg mb : Str → Option Value) (f : Addr) (vs : List Value) (lv : Nat) (led : List (Addr × Obj)) (Out : Value → List (Addr × Obj) → Prop) : Prop :=
  ∀ (dp un : Nat) (gd : Option (List Code)) (cn : Str) (cs : Scope) (a : Addr) (ccd : Value) (cl : List (Str × Addr)) (outer : List Env) (A₀ : Around) (base h₀ : Heap) (L : Addr) (m : Str → Option Value) (s : Shared)
    (Q E : Value → Shared → Prop),
    Below A₀ base outer h₀ → Fr h₀ L s.heap m → (hd.heap_39 w.params).In h₀ → News h₀ L s.heap led → Top hd.view_39 (looseW hd.view_39 []) mean mg mb h₀ → cs.kind = .function → dp + lv < recursionLimit → un + 100 * lv < cLine →
    (∀ r led' h' tk', Fr h₀ L h' m → News h₀ L h' led' → (∀ b o, s.heap.get? b = some o → b ∉ led.map (·.1) → h'.get? b = some o) → (∀ p ∈ led', p.1 ∉ led.map (·.1) → s.heap.get? p.1 = none) → Out r led' → Q r { s with heap := h', toks := tk' }) →
    wpAny (model PySem.Challenge.rw_xm0972_01.row.prog w) (ktrTop dp un gd cn cs L a ccd cl outer) (call (.ref f) vs) Q E s
section
variable {prog : Program} {w : World} {A₀ A : Around} {s : Shared} {base h₀ : Heap} {outer : List Env} {L : Addr} {m : Str → Option Value} {env : Env} {news : List (Addr × Obj)} {K : Frag} {p : Program} {loose : List Str} {mean : ExcName → Option Value} {mg mb : Str → Option Value}
  {R : Result → Shared → Prop} {name qual : Str} {params : Arguments} {body : List Stmt} {scope : Scope} {dV kV doc pm cdv ct oc : Value} {an od : Option Addr} {osl : Array (Option Value)} {f : Addr} {args : Args} {binds : List (Str × Value)}
/-- entering a def that has cells; what lies outside the handed ledger is in the ground -/
theorem defCG (B : Below A₀ base outer h₀) (F : Fr h₀ L s.heap m) (X₀ : K.In h₀) (N : News h₀ L s.heap news) (T : Top p loose mean mg mb h₀) (hA : A.frames = some (env :: outer)) (hf : env.frame = some L) (hke : env.scope.kind = .function)
    (ho : K.lookup f = some ⟨oc, od, .func (fnOf name qual params body scope dV kV doc pm an cdv ct), osl⟩) (hcd : codeIn K cdv qual = true) (hroom : A.depth < recursionLimit)
    (hbind : BindsTo s (fnOf name qual params body scope dV kV doc pm an cdv ct) args binds) (hkind : (binds.all fun y => scope.names.lookup y.1 == some .local || scope.names.lookup y.1 == some .cell) = true)
    (hnd : ((cellsFrom 0 scope.names []).map (·.1)).Nodup)
    (h : ∀ g L' h₁ tk cells, Fr h₀ L g m → Fr g L' h₁ (bindL (envOfC qual scope L' f cdv).kindOf binds fun _ => none) → News g L' h₁ (cells ++ news) →
      CellsAre (bindC (envOfC qual scope L' f cdv).kindOf binds fun _ => none) (cellsFrom (L' + 1) scope.names []) cells → Below A base (env :: outer) g → K.In g → Top p loose mean mg mb g → (∀ p ∈ news, p.1 < L') → GSub s.heap g (news.map (·.1)) →
      wpAny (model prog w) (A.deeper (envOfC qual scope L' f cdv)) (execs body (envOfC qual scope L' f cdv))
        (fun fl s' => LeaveK h₀ L m g R (match fl with | .ret v => v | _ => .none) s')
        (fun e s' => wpAny (model prog w) (A.deeper (envOfC qual scope L' f cdv)) (leaving (envOfC qual scope L' f cdv) e) (fun _ s'' => R (.error e) s'') (fun e' s'' => R (.error e') s'') s')
        { s with heap := h₁, toks := tk })
    (hco : scope.isCoroutine = false) (hgen : scope.isGenerator = false) (hk : scope.kind = .function) : codeAny (model prog w) A (.call (.ref f) args) R s := by
  obtain ⟨FG, BG, st, lv⟩ := groundX (R := R) B F N hA hf hke
  refine codeAny_call_function hroom ((X₀.keeps F.keep) _ _ ho) rfl hco hgen rfl (codeRec_of (X₀.keeps F.keep) hcd) (hbind _ _ _ _ ?_)
  refine wpAny_newFunctionEnv_cells hk (kindsX hkind _) fun env' he s' x => ?_
  subst he
  refine ⟨(T.nolimit.keeps F.keep).keeps x.toInCall.keep, codeAny_func ?_⟩
  obtain ⟨h₁, tk, rfl, _⟩ := x.done
  have hk₁ := x.toInCall.keep
  obtain ⟨cells, NC, Y⟩ := Cl.news (h₀ := s.heap) (Nat.le_refl _) fun n c hm => ⟨x.cell n c (lookup_of_mem_nodup (cellsFrom_names scope.names 0 (s.heap.objs.size + 1) [] [] rfl ▸ hnd) hm), x.above n c hm⟩
  refine wpAny_mono (h _ s.heap.objs.size h₁ tk cells FG ⟨x.toInCall.ns, fun b o e => hk₁ b o (of_hideAll _ e), Nat.le_of_eq (hideAll_size _ _)⟩ (fun p hp => ?_) Y BG (X₀.keeps st) (T.keeps st) (fun p hp => Heap.lt_size (N p hp).1) (fun b o e n => hideAll_get _ e n)) (fun fl s' hl => lv _ _ hl) fun _ _ y => y
  rcases List.mem_append.mp hp with hp | hp
  · refine ⟨(NC p hp).1, (NC p hp).2.1, ?_⟩
    cases q : (hideAll s.heap (news.map (·.1))).get? p.1 with
    | none => rfl
    | some o => have := of_hideAll _ q; rw [(NC p hp).2.2] at this; cases this
  · exact ⟨hk₁ _ _ (N p hp).1, Nat.ne_of_lt (Heap.lt_size (N p hp).1), hideAll_none _ (List.mem_map_of_mem hp)⟩
end
theorem keep_of {s g h' : Heap} {L' : Addr} {m' : Str → Option Value} {led : List Addr} (G : GSub s g led) (F : Fr g L' h' m') : ∀ b o, s.get? b = some o → b ∉ led → h'.get? b = some o := fun b o e n => F.keep b o (G b o e n)
theorem fm_mul_ok (x y : Int) : IntMulOk (x.fmod 2147483647) y := PySem.IntMulOk.of_left (PySem.intBits_le_64 (by have := Int.fmod_nonneg_of_pos x (show (0:Int) < 2147483647 by decide); omega) (by have := Int.fmod_lt_of_pos x (show (0:Int) < 2147483647 by decide); omega))
theorem fdiv_nn {a b : Int} (ha : 0 ≤ a) (hb : 0 < b) : 0 ≤ a.fdiv b := by
  rw [Int.fdiv_eq_ediv_of_nonneg _ (Int.le_of_lt hb)]; exact Int.ediv_nonneg ha (Int.le_of_lt hb)
abbrev tupOf (its : Array Value) (n : Nat) : Obj := { cls := .type "tuple", data := .seq its n }
theorem Does.use {w : World} {mean : ExcName → Option Value} {mg mb : Str → Option Value} {f : Addr} {vs : List Value} {lv : Nat} {led : List (Addr × Obj)} {Out : Value → List (Addr × Obj) → Prop} (C : Does w mean mg mb f vs lv led Out)
    {dp un : Nat} {gd : Option (List Code)} {cn : Str} {cs : Scope} {a : Addr} {ccd : Value} {cl : List (Str × Addr)} {outer : List Env} {A₀ : Around} {base h₀ : Heap} {L : Addr} {m : Str → Option Value} {s : Shared} {Q E : Value → Shared → Prop}
    (B : Below A₀ base outer h₀) (F : Fr h₀ L s.heap m) (X : (hd.heap_39 w.params).In h₀) (N : News h₀ L s.heap led) (T : Top hd.view_39 (looseW hd.view_39 []) mean mg mb h₀) (hk : cs.kind = .function) (hdp : dp + lv < recursionLimit) (hun : un + 100 * lv < cLine)
    (ret : ∀ r led' h' tk', Fr h₀ L h' m → News h₀ L h' led' → (∀ b o, s.heap.get? b = some o → b ∉ led.map (·.1) → h'.get? b = some o) → (∀ p ∈ led', p.1 ∉ led.map (·.1) → s.heap.get? p.1 = none) → Out r led' → Q r { s with heap := h', toks := tk' }) :
    wpAny (model PySem.Challenge.rw_xm0972_01.row.prog w) (ktrTop dp un gd cn cs L a ccd cl outer) (call (.ref f) vs) Q E s := C _ _ _ _ _ _ _ _ _ _ _ _ _ _ _ _ _ B F X N T hk hdp hun ret
theorem news_sub {h₀ h : Heap} {L : Addr} {news led : List (Addr × Obj)} (N : News h₀ L h news) (hs : ∀ p ∈ led, p ∈ news) : News h₀ L h led := fun p hp => N p (hs p hp)
theorem news_lt {h₀ h : Heap} {L : Addr} {news : List (Addr × Obj)} (N : News h₀ L h news) : AllLt h.objs.size news := allLt_of fun p hp => Heap.lt_size (N p hp).1
def OffL (a : Nat) : List Addr → Prop
  | [] => True
  | b :: r => (@Ne Nat a b) ∧ OffL a r
def AllOff (led : List Addr) : List (Addr × Obj) → Prop
  | [] => True
  | p :: r => OffL p.1 led ∧ AllOff led r
theorem OffL.not_mem {a : Addr} : ∀ {l : List Addr}, OffL a l → a ∉ l
  | [], _, h => nomatch h
  | _ :: _, x, h => by
    rcases List.mem_cons.mp h with e | h
    · exact x.1 e
    · exact OffL.not_mem x.2 h
theorem AllOff.mem {led : List Addr} : ∀ {l : List (Addr × Obj)}, AllOff led l → ∀ p ∈ l, p.1 ∉ led
  | [], _, _, h => nomatch h
  | _ :: _, x, p, h => by
    rcases List.mem_cons.mp h with rfl | h
    · exact x.1.not_mem
    · exact AllOff.mem x.2 p h
def Held (P : Prop) : Prop := P
theorem Held.out {P : Prop} (h : Held P) : P := h
section
variable {prog : Program} {w : World} {A : Around} {E : Value → Shared → Prop} {s : Shared} {Q : Value → Shared → Prop} {a k : Int} {t u : Tok}
theorem pow2_small {k : Int} (h1 : k ≤ 20) : ((2 : Int) ^ k.toNat).natAbs < 1073741824 := by
  have h : ∀ n < 21, ((2 : Int) ^ n).natAbs < 1073741824 := by decide
  exact h _ (by omega)
theorem pow2_ne (n : Nat) : (2 : Int) ^ n ≠ 0 := by
  have h0 : (0 : Int) < 2 ^ n := Int.pow_pos (by decide)
  omega
theorem fd_pow (h1 : k ≤ 20) (h : Q (.int (a.fdiv (2 ^ k.toNat)) s.toks) { s with toks := s.toks + 1 }) : wpAny (model prog w) A (binaryOp .FloorDiv (.int a t) (.int (2 ^ k.toNat) u)) Q E s :=
  floordiv_int (pow2_ne _) h (Or.inl (PyProof.noPylong_small (pow2_small h1)))
theorem md_2 (h : Q (.int (a.fmod 2) s.toks) { s with toks := s.toks + 1 }) : wpAny (model prog w) A (binaryOp .Mod (.int a t) (.int 2 u)) Q E s := PyProof.Rows.mod_int' (by decide) h
theorem pw_2 (h0 : 0 ≤ k) (h1 : k ≤ 20) (h : Q (.int (2 ^ k.toNat) s.toks) { s with toks := s.toks + 1 }) : wpAny (model prog w) A (binaryOp .Pow (.int 2 t) (.int k u)) Q E s :=
  pow_int_small h0 (by omega) (by decide) h
end
theorem fresh_of {s g h' : Heap} {L' : Addr} {led' : List (Addr × Obj)} {led : List Addr} (G : GSub s g led) (N : News g L' h' led') : ∀ p ∈ led', p.1 ∉ led → s.get? p.1 = none := fun p hp hn => by
  cases e : s.get? p.1 with
  | none => rfl
  | some o => have := G _ _ e hn; rw [(N p hp).2.2] at this; cases this
def AllNe (D : Nat) : List (Addr × Obj) → Prop
  | [] => True
  | p :: r => (@Ne Nat p.1 D) ∧ AllNe D r
theorem fresh_ne {h₀ h : Heap} {L D : Addr} : ∀ {news : List (Addr × Obj)}, News h₀ L h news → h.get? D = none → AllNe D news
  | [], _, _ => trivial
  | p :: r, N, f => ⟨fun e => (by have := (N p List.mem_cons_self).1; have e' : p.1 = D := e; rw [e', f] at this; cases this), fresh_ne (fun q hq => N q (List.mem_cons_of_mem _ hq)) f⟩
theorem off1 {a b : Addr} (h : @Ne Nat a b) : a ∉ [b] := fun q => h (List.mem_singleton.mp q)
theorem AllNe.mem {D : Addr} : ∀ {l : List (Addr × Obj)}, AllNe D l → ∀ p ∈ l, p.1 ≠ D
  | [], _, _, h => nomatch h
  | _ :: _, x, p, h => by
    rcases List.mem_cons.mp h with rfl | h
    · exact x.1
    · exact AllNe.mem x.2 p h
def drops {α : Type} : List Nat → List α → List α
  | [], l => l
  | i :: r, l => drops r (l.eraseIdx i)
theorem mem_drops {α : Type} {a : α} : ∀ (is : List Nat) {l : List α}, a ∈ drops is l → a ∈ l
  | [], _, h => h
  | _ :: r, _, h => List.mem_of_mem_eraseIdx (mem_drops r h)
theorem news_joinL {h₀ h h' : Heap} {L : Addr} {news led' : List (Addr × Obj)} {led : List Addr} (is : List Nat) (N : News h₀ L h news) (N' : News h₀ L h' led') (keep : ∀ b o, h.get? b = some o → b ∉ led → h'.get? b = some o) (hn : AllOff led (drops is news)) : News h₀ L h' (led' ++ drops is news) := fun p hp => by
  rcases List.mem_append.mp hp with hp | hp
  · exact N' p hp
  · have hq := mem_drops is hp
    exact ⟨keep _ _ (N p hq).1 (hn.mem p hp), (N p hq).2⟩
theorem news_pure {h₀ h h' : Heap} {L : Addr} {news new led : List (Addr × Obj)} (N : News h₀ L h news) (hsub : ∀ p ∈ led, p ∈ news) (N' : News h₀ L h' (new ++ led)) (keep : ∀ b o, h.get? b = some o → b ∉ led.map (·.1) → h'.get? b = some o) : News h₀ L h' (new ++ news) := fun p hp => by
  rcases List.mem_append.mp hp with hp | hp
  · exact N' p (List.mem_append_left _ hp)
  · by_cases hm : p.1 ∈ led.map (·.1)
    · obtain ⟨q, hq, e⟩ := List.mem_map.mp hm
      have h1 := (N p hp).1
      have h2 := (N q (hsub q hq)).1
      have e' : q.1 = p.1 := e
      rw [e', h1] at h2
      have e2 : q = p := Prod.ext e' (Option.some.inj h2).symm
      exact N' p (List.mem_append_right _ (e2 ▸ hq))
    · exact ⟨keep _ _ (N p hp).1 hm, (N p hp).2⟩
end Mine
namespace Mine
theorem take_ok (w : World) (mean : ExcName → Option Value) (mg mb : Str → Option Value) (src : Addr) (a b : Int) (ta tb : Tok) (n : Nat) (top : Int) (tt : Tok) (ha : 0 ≤ a) (hb : 0 ≤ b) (hb2 : b < 2147483647) (ht : 0 < top) (ht2 : top < 1000) :
  Does w mean mg mb 63 [.ref src, .int top tt] 1 [(src, listOf #[.int a ta, .int b tb] n)]
    (fun r led' => ∃ x t a' b' ta' tb', r = .int x t ∧ 0 ≤ x ∧ x < top ∧ 0 ≤ a' ∧ 0 ≤ b' ∧ b' < 2147483647 ∧ led' = [(src, listOf #[.int a' ta', .int b' tb'] n)]) := by
  unfold Does
  w_top off
  k_fill
  intro dp un gd cn cs fa ccd cl outer A₀ base h₀ L m s Q E B F X N T hk hdp hun hret
  refine wpAny_call ?_
  k_dflt (refine' code_defG ?k1 ?k2 ?k3 ?k4 ?k5 ?kA ?kF ?kK ?k6 ?k7 ?k8 ?k9 ?kB ?_ ?c2 ?c3 ?c4 ?c5; (case kA => exact rfl); (case kF => exact rfl); (case kK => assumption); (case k1 => k_asm); (case k2 => k_asm); (case k3 => k_asm); (case k4 => k_asm); (case k5 => k_asm); (case k6 => k_is); (case k7 => k_is); (case k8 => ktr_room); (case k9 => exact BindsTo.of_eq rfl); (case c5 => decide); (case kB => exact locs rfl); (case c2 => exact rfl); (case c3 => exact rfl); (case c4 => exact rfl); k_whole)
  intro g' L' h' FG' F' N' B' X' T' kG'
  (try dsimp only)
  (try k_fold)
  k_steps
  · exact hret _ _ _ _ (by assumption) (by assumption) (keep_of (by assumption) (by assumption)) (fresh_of (by assumption) (by assumption)) ⟨_, _, _, _, _, _, rfl, Int.fmod_nonneg_of_pos _ ht, Int.fmod_lt_of_pos _ ht, fdiv_nn ha ht, hb, hb2, rfl⟩
  · refine PyProof.Rows.mul_int ?_ (fm_mul_ok _ _)
    k_steps
    exact hret _ _ _ _ (by assumption) (by assumption) (keep_of (by assumption) (by assumption)) (fresh_of (by assumption) (by assumption)) ⟨_, _, _, _, _, _, rfl, Int.fmod_nonneg_of_pos _ ht, Int.fmod_lt_of_pos _ ht, ha, Int.fmod_nonneg_of_pos _ (by decide), Int.fmod_lt_of_pos _ (by decide), rfl⟩
end Mine
namespace Mine
section
abbrev gens2 (x y : Str) (px py : Pos) (it1 it2 : Expr) : List Comprehension := [⟨.Name x px, it1, [], 0⟩, ⟨.Name y py, it2, [], 0⟩]
theorem turn_in (elt : Expr) (x y : Str) (px py : Pos) (it1 it2 : Expr) (scope : Scope) (pos : Pos) (it acc : Value) (env : Env) :
    compTurn (.ListComp elt (gens2 x y px py it1 it2) scope pos) 1 it acc env = (standAt it2.pos >>= fun _ => pyNext it >>= fun r => match r with
      | none => pure (.done .next)
      | some v => letOwnedTupleGo (.Name y py) it v >>= fun _ => assign (.Name y py) env v >>= fun _ =>
        (eval elt env >>= fun x => call (.builtin "list.append") [acc, x] >>= fun _ => pure ()) >>= fun _ =>
          again (.compLoop (.ListComp elt (gens2 x y px py it1 it2) scope pos) 1 it acc env)) := by rfl
theorem turn_out (elt : Expr) (x y : Str) (px py : Pos) (it1 it2 : Expr) (scope : Scope) (pos : Pos) (it acc : Value) (env : Env) :
    compTurn (.ListComp elt (gens2 x y px py it1 it2) scope pos) 0 it acc env = (standAt it1.pos >>= fun _ => pyNext it >>= fun r => match r with
      | none => pure (.done .next)
      | some v => letOwnedTupleGo (.Name x px) it v >>= fun _ => assign (.Name x px) env v >>= fun _ =>
        eval it2 env >>= fun xv => standAt it2.pos >>= fun _ => foldedSetIterable it2 env xv >>= fun xv' => holding [xv'] (pyIter xv') >>= fun i2 =>
          runOwn (.compStart (.ListComp elt (gens2 x y px py it1 it2) scope pos) 1 i2 acc env) env >>= fun _ =>
          again (.compLoop (.ListComp elt (gens2 x y px py it1 it2) scope pos) 0 it acc env)) := by rfl
variable {prog : Program} {w : World} {A : Around} {R : Result → Shared → Prop} {s : Shared}
theorem start_in {elt it1 it2 : Expr} {x y : Str} {px py : Pos} {scope : Scope} {pos : Pos} {it acc : Value} {env : Env}
    (h0 : codeAny (model prog w) A (.compLoop (.ListComp elt (gens2 x y px py it1 it2) scope pos) 1 it acc env) R s)
    (h : wpAny (model prog w) A (pyIter it) (fun it' s' => codeAny (model prog w) A (.compLoop (.ListComp elt (gens2 x y px py it1 it2) scope pos) 1 it' acc env) R s')
      (notedBy (model prog w) A env fun x s' => R (.error x) s') s) :
    codeAny (model prog w) A (.compStart (.ListComp elt (gens2 x y px py it1 it2) scope pos) 1 it acc env) R s := by
  refine codeAny_of_tree ?_
  show wpAny _ _ ((compStart (.ListComp elt (gens2 x y px py it1 it2) scope pos) 1 it acc env).onRaise (fun x => do noteFrame x env; standAt theWindowsPlace)) _ _ s
  refine wpAny_notedAt ?_
  unfold compStart
  show wpAny _ _ (ask >>= _) _ _ s
  refine wpAny_bind (wpAny_askSetting (wpAny_ite ?_))
  split
  · first
      | exact wpAny_bind (wpAny_pure (wpAny_pure (And.intro rfl h0)))
      | exact wpAny_pure (And.intro rfl h0)
  · refine wpAny_bind (wpAny_rule ?_)
    show wpAny _ _ (standAt it2.pos >>= _) _ _ s
    exact wpAny_bind (wpAny_standAt (wpAny_bind (wpAny_mono h (fun it' s' h' => wpAny_pure (And.intro rfl h')) fun _ _ x => x)))
theorem start_both {elt it1 it2 : Expr} {x y : Str} {px py : Pos} {scope : Scope} {pos : Pos} {acc : Value} {env : Env} {I l : Addr} {i : Nat} (hit : s.heap.IsListIter I l i)
    (h : codeAny (model prog w) A (.compLoop (.ListComp elt (gens2 x y px py it1 it2) scope pos) 1 (.ref I) acc env) R s) :
    codeAny (model prog w) A (.compStart (.ListComp elt (gens2 x y px py it1 it2) scope pos) 1 (.ref I) acc env) R s := start_in h (wpAny_pyIter_listiter hit h)
theorem inner_loop {elt it1 it2 : Expr} {x y : Str} {px py : Pos} {scope : Scope} {pos : Pos} {I l D : Addr} {cenv : Env} {vs : List Value} {ns acc0 : List Int} {ys0 : List Value} {m : Str → Option Value} (a : Int) (ta : Tok) (g : Int → Int → Int)
    (hh : A.handled = none) (hy : cenv.kindOf y = some .local) (hxy : x ≠ y)
    (hp : (cenv.scope.kind == .class || (cenv.scope.kind == .module && cenv.locals != cenv.globals)) = false)
    (hDI : D ≠ I) (hDC : D ≠ cenv.locals) (hIC : I ≠ cenv.locals) (hlI : l ≠ I) (hlC : l ≠ cenv.locals) (hlD : l ≠ D)
    (hit : s.heap.IsListIter I l 0) (hl : s.heap.IsList l vs.toArray) (hi : IntsAre vs ns) (hacc : s.heap.get? D = some (LCg.lst ys0)) (ha : IntsAre ys0 acc0) (hn : s.heap.Ns cenv.locals m) (hx : m x = some (.int a ta))
    (hsz : ys0.length + vs.length ≤ sizeLine)
    (helt : ∀ (s' : Shared) m' b tb (E' : Value → Shared → Prop), b ∈ ns → s'.heap.Ns cenv.locals m' → m' x = some (.int a ta) → m' y = some (.int b tb) →
      wpAny (model prog w) A (eval elt cenv) (fun v s'' => ∃ t tk, v = .int (g a b) t ∧ s'' = { s' with toks := tk }) E' s')
    (hR : ∀ h' tk m' ys, (∀ b o, b ≠ cenv.locals → b ≠ I → b ≠ D → s.heap.get? b = some o → h'.get? b = some o) → h'.get? D = some (LCg.lst ys) → ys.length = ys0.length + vs.length → IntsAre ys (acc0 ++ ns.map (g a)) → h'.Ns cenv.locals m' → R (.ok .next) { s with heap := h', toks := tk }) :
    codeAny (model prog w) A (.compLoop (.ListComp elt (gens2 x y px py it1 it2) scope pos) 1 (.ref I) (.ref D) cenv) R s := by
  have hlen : vs.length = ns.length := hi.length
  refine codeAny_loop rfl (fun k s' => ∃ h' tk i ys m', s' = { s with heap := h', toks := tk } ∧ i ≤ vs.length ∧ k = vs.length + 1 - i ∧ h'.IsListIter I l i ∧ h'.IsList l vs.toArray ∧ h'.get? D = some (LCg.lst ys) ∧ ys.length = ys0.length + i ∧
      IntsAre ys (acc0 ++ (ns.take i).map (g a)) ∧ h'.Ns cenv.locals m' ∧ m' x = some (.int a ta) ∧ (∀ b o, b ≠ cenv.locals → b ≠ I → b ≠ D → s.heap.get? b = some o → h'.get? b = some o)) ?_ (vs.length + 1)
    ⟨s.heap, s.toks, 0, ys0, m, rfl, Nat.zero_le _, rfl, hit, hl, hacc, rfl, by simpa using ha, hn, hx, fun _ _ _ _ _ e => e⟩
  rintro k s' ⟨h', tk, i, ys, m', rfl, hi', rfl, hit', hl', hD', hlen', hys, hn', hx', hk⟩
  show wpAny _ A ((compTurn (.ListComp elt (gens2 x y px py it1 it2) scope pos) 1 (.ref I) (.ref D) cenv).onRaise (fun x => do noteFrame x cenv; theTreesLotGoes x)) _ _ _
  refine wpAny_noted ?_
  rw [turn_in]
  refine wpAny_bind (wpAny_standAt (wpAny_bind ?_))
  cases hv : vs.toArray[i]? with
  | none =>
    have hge : vs.length ≤ i := by simpa using hv
    obtain rfl : i = vs.length := Nat.le_antisymm hi' hge
    refine wpAny_pyNext_list_end hh hit' hl' hv fun h₁ he₁ => wpAny_pure ?_
    rw [hlen, List.take_length] at hys
    exact hR h₁ tk m' ys (fun b o b1 b2 b3 e => he₁ b o b2 (hk b o b1 b2 b3 e)) (he₁ _ _ hDI hD') hlen' hys (hn'.extBut he₁ (Ne.symm hIC))
  | some v =>
    have hlt : i < vs.length := by
      have := (Array.getElem?_eq_some_iff.mp hv).1
      simpa using this
    obtain ⟨b, tb, rfl, hb⟩ := IntsAre.at hi i v (by simpa using hv)
    refine wpAny_pyNext_list_item hit' hl' hv fun h₁ hit₁ hs₁ => ?_
    refine wpAny_bind (wpAny_of_eq (show letOwnedTupleGo (.Name y py) (.ref I) (.int b tb) = pure () from rfl) ?_)
    refine wpAny_bind (wpAny_assign_Name (wpAny_storeName_local hy (hn'.sameBut hs₁ (Ne.symm hIC)) (fun h₂ hn₂ hs₂ => ?_) hp))
    refine wpAny_bind (wpAny_bind (wpAny_mono (helt _ _ b tb _ (List.mem_of_getElem? hb) hn₂ (by simp only [if_neg hxy]; exact hx') (by simp)) ?_ fun _ _ e => e))
    rintro v' s₄ ⟨t, tk₄, rfl, rfl⟩
    have hD₂ : h₂.get? D = some (LCg.lst ys) := hs₂.extBut _ _ hDC (hs₁.extBut _ _ hDI hD')
    refine wpAny_bind (append_at (hsz := by show ys.toArray.size ≤ sizeLine; rw [List.size_toArray]; omega) hD₂ fun h₅ hs₅ hD₅ => wpAny_pure (wpAny_pure ⟨rfl, ?_⟩))
    refine ⟨vs.length + 1 - (i + 1), by omega, h₅, tk₄, i + 1, ys ++ [.int (g a b) t], _, rfl, hlt, rfl, ?_, ?_, hD₅.trans (congrArg some (LCg.lst_snoc ys _)), by rw [List.length_append, List.length_singleton]; omega, ?_, hn₂.sameBut hs₅ (Ne.symm hDC), by simp only [if_neg hxy]; exact hx', ?_⟩
    · exact (hit₁.extBut hs₂.extBut hIC).extBut hs₅.extBut (Ne.symm hDI)
    · exact ((hl'.extBut hs₁.extBut hlI).extBut hs₂.extBut hlC).extBut hs₅.extBut hlD
    · rw [List.take_add_one, hb, Option.toList_some, List.map_append, ← List.append_assoc]
      exact IntsAre.append hys (.cons _ _ .nil)
    · exact fun b o b1 b2 b3 e => hs₅.extBut b o b3 (hs₂.extBut b o b1 (hs₁.extBut b o b2 (hk b o b1 b2 b3 e)))
theorem outer_loop {elt it1 it2 : Expr} {x y : Str} {px py : Pos} {scope : Scope} {pos : Pos} {I l l2 c D : Addr} {oc : Obj} {cenv : Env} {vs vs2 : List Value} {ns ns2 : List Int} {m : Str → Option Value} (g : Int → Int → Int)
    (hh : A.handled = none) (hx : cenv.kindOf x = some .local) (hy : cenv.kindOf y = some .local) (hxy : x ≠ y)
    (hp : (cenv.scope.kind == .class || (cenv.scope.kind == .module && cenv.locals != cenv.globals)) = false)
    (hDI : D ≠ I) (hDC : D ≠ cenv.locals) (hIC : I ≠ cenv.locals) (hlI : l ≠ I) (hlC : l ≠ cenv.locals) (hlD : l ≠ D) (h2I : l2 ≠ I) (h2C : l2 ≠ cenv.locals) (h2D : l2 ≠ D) (hcI : c ≠ I) (hcC : c ≠ cenv.locals) (hcD : c ≠ D)
    (hit : s.heap.IsListIter I l 0) (hl : s.heap.IsList l vs.toArray) (hi : IntsAre vs ns) (hl2 : s.heap.IsList l2 vs2.toArray) (hi2 : IntsAre vs2 ns2) (hc : s.heap.get? c = some oc) (hacc : s.heap.get? D = some (LCg.lst [])) (hn : s.heap.Ns cenv.locals m)
    (hfs : ∀ v, foldedSetIterable it2 cenv v = pure v)
    (hit2 : ∀ (s' : Shared) (Q : Value → Shared → Prop) (E' : Value → Shared → Prop), s'.heap.get? c = some oc → Q (.ref l2) s' → wpAny (model prog w) A (eval it2 cenv) Q E' s')
    (hsz : vs.length * vs2.length ≤ sizeLine)
    (helt : ∀ (s' : Shared) m' a ta b tb (E' : Value → Shared → Prop), a ∈ ns → b ∈ ns2 → s'.heap.Ns cenv.locals m' → m' x = some (.int a ta) → m' y = some (.int b tb) →
      wpAny (model prog w) A (eval elt cenv) (fun v s'' => ∃ t tk, v = .int (g a b) t ∧ s'' = { s' with toks := tk }) E' s')
    (hR : ∀ h' tk m' ys, (∀ b o, b ≠ cenv.locals → b ≠ I → b ≠ D → s.heap.get? b = some o → h'.get? b = some o) → h'.get? D = some (LCg.lst ys) → IntsAre ys (ns.flatMap fun a => ns2.map (g a)) → h'.Ns cenv.locals m' → R (.ok .next) { s with heap := h', toks := tk }) :
    codeAny (model prog w) A (.compLoop (.ListComp elt (gens2 x y px py it1 it2) scope pos) 0 (.ref I) (.ref D) cenv) R s := by
  have hlen : vs.length = ns.length := hi.length
  refine codeAny_loop rfl (fun k s' => ∃ h' tk i ys m', s' = { s with heap := h', toks := tk } ∧ i ≤ vs.length ∧ k = vs.length + 1 - i ∧ h'.IsListIter I l i ∧ h'.IsList l vs.toArray ∧ h'.IsList l2 vs2.toArray ∧ h'.get? c = some oc ∧ h'.get? D = some (LCg.lst ys) ∧ ys.length = i * vs2.length ∧
      IntsAre ys ((ns.take i).flatMap fun a => ns2.map (g a)) ∧ h'.Ns cenv.locals m' ∧ (∀ b o, b ≠ cenv.locals → b ≠ I → b ≠ D → s.heap.get? b = some o → h'.get? b = some o)) ?_ (vs.length + 1)
    ⟨s.heap, s.toks, 0, [], m, rfl, Nat.zero_le _, rfl, hit, hl, hl2, hc, hacc, by simp, by simpa using IntsAre.nil, hn, fun _ _ _ _ _ e => e⟩
  rintro k s' ⟨h', tk, i, ys, m', rfl, hi', rfl, hit', hl', hl2', hc', hD', hlen', hys, hn', hk⟩
  show wpAny _ A ((compTurn (.ListComp elt (gens2 x y px py it1 it2) scope pos) 0 (.ref I) (.ref D) cenv).onRaise (fun x => do noteFrame x cenv; theTreesLotGoes x)) _ _ _
  refine wpAny_noted ?_
  rw [turn_out]
  refine wpAny_bind (wpAny_standAt (wpAny_bind ?_))
  cases hv : vs.toArray[i]? with
  | none =>
    have hge : vs.length ≤ i := by simpa using hv
    obtain rfl : i = vs.length := Nat.le_antisymm hi' hge
    refine wpAny_pyNext_list_end hh hit' hl' hv fun h₁ he₁ => wpAny_pure ?_
    rw [hlen, List.take_length] at hys
    exact hR h₁ tk m' ys (fun b o b1 b2 b3 e => he₁ b o b2 (hk b o b1 b2 b3 e)) (he₁ _ _ hDI hD') hys (hn'.extBut he₁ (Ne.symm hIC))
  | some v =>
    have hlt : i < vs.length := by
      have := (Array.getElem?_eq_some_iff.mp hv).1
      simpa using this
    obtain ⟨a, ta, rfl, hb⟩ := IntsAre.at hi i v (by simpa using hv)
    refine wpAny_pyNext_list_item hit' hl' hv fun h₁ hit₁ hs₁ => ?_
    refine wpAny_bind (wpAny_of_eq (show letOwnedTupleGo (.Name x px) (.ref I) (.int a ta) = pure () from rfl) ?_)
    refine wpAny_bind (wpAny_assign_Name (wpAny_storeName_local hx (hn'.sameBut hs₁ (Ne.symm hIC)) (fun h₂ hn₂ hs₂ => ?_) hp))
    have hl2₂ : h₂.IsList l2 vs2.toArray := (hl2'.extBut hs₁.extBut h2I).extBut hs₂.extBut h2C
    have hc₂ : h₂.get? c = some oc := hs₂.extBut _ _ hcC (hs₁.extBut _ _ hcI hc')
    have hD₂ : h₂.get? D = some (LCg.lst ys) := hs₂.extBut _ _ hDC (hs₁.extBut _ _ hDI hD')
    refine wpAny_bind (hit2 _ _ _ hc₂ (wpAny_bind (wpAny_standAt (wpAny_bind (wpAny_of_eq (hfs _) (wpAny_bind (wpAny_holding (wpAny_pyIter_list hl2₂ ?_))))))))
    have up : ∀ b o, h₂.get? b = some o → (h₂.push { cls := .type "list_iterator", data := .fields #[.ref l2, .int 0 0] }).get? b = some o := fun b o e => Heap.get?_push_of_some _ e
    have new : ∀ b o, h₂.get? b = some o → b ≠ h₂.objs.size := fun b o e => Nat.ne_of_lt (Heap.lt_size e)
    obtain ⟨ol2, hol2, _⟩ := id hl2₂
    have hCs : cenv.locals < h₂.objs.size := hn₂.lt
    refine wpAny_bind (wpAny_runOwn ?_)
    show codeAny _ A _ _ _
    have hit₂ : (h₂.push { cls := .type "list_iterator", data := .fields #[.ref l2, .int 0 0] }).IsListIter h₂.objs.size l2 0 := ⟨_, Heap.get?_push_size _ rfl, rfl, rfl⟩
    have mul : (i + 1) * vs2.length ≤ vs.length * vs2.length := Nat.mul_le_mul_right _ hlt
    have mul' : (i + 1) * vs2.length = i * vs2.length + vs2.length := Nat.succ_mul _ _
    refine start_both hit₂ (inner_loop (ys0 := ys) a ta g hh hy hxy hp (new _ _ hD₂) hDC (Nat.ne_of_gt hCs) (new _ _ hol2) h2C h2D hit₂
      (hl2₂.at fun o e => up _ o e) hi2 (up _ _ hD₂) hys (hn₂.at' fun o e => up _ o e) (by simp) (by omega)
      (fun s' m' b tb E' hb' hn hx hy => helt s' m' a ta b tb E' (List.mem_of_getElem? hb) hb' hn hx hy) ?_)
    · intro h₅ tk₅ m₅ ys₅ hk₅ hD₅ hl₅ hi₅ hn₅
      have far : ∀ b o, b ≠ cenv.locals → b ≠ D → h₂.get? b = some o → h₅.get? b = some o := fun b o b1 b2 e => hk₅ b o b1 (new b o e) b2 (up b o e)
      refine wpAny_pure ⟨rfl, vs.length + 1 - (i + 1), by omega, h₅, tk₅, i + 1, ys₅, m₅, rfl, hlt, rfl, ?_, ?_, ?_, far _ _ hcC hcD hc₂, hD₅, by rw [hl₅, hlen']; omega, ?_, hn₅, ?_⟩
      · exact (hit₁.extBut hs₂.extBut hIC).at fun o e => far _ o hIC (Ne.symm hDI) e
      · exact ((hl'.extBut hs₁.extBut hlI).extBut hs₂.extBut hlC).at fun o e => far _ o hlC hlD e
      · exact hl2₂.at fun o e => far _ o h2C h2D e
      · rw [List.take_add_one, hb, Option.toList_some, List.flatMap_append]
        simpa using hi₅
      · exact fun b o b1 b2 b3 e => far b o b1 b3 (hs₂.extBut b o b1 (hs₁.extBut b o b2 (hk b o b1 b2 b3 e)))
variable {E : Value → Shared → Prop} {h₀ : Heap} {m₀ : Str → Option Value} {env : Env} {news : List (Addr × Obj)}
theorem Assign_comp2 {elt it1 it2 : Expr} {x y z : Str} {px py pz : Pos} {scope : Scope} {cl : List (Str × Addr)} {pos spos : Pos} {l l2 c : Addr} {oc : Obj} {vs vs2 : List Value} {n n2 : Nat} {ns ns2 : List Int} {Q : Flow → Shared → Prop} (g : Int → Int → Int)
    (hh : A.handled = none) (F : Fr h₀ env.locals s.heap m₀) (N : News h₀ env.locals s.heap news)
    (hl : (l, listOf vs.toArray n) ∈ news) (hl2 : (l2, listOf vs2.toArray n2) ∈ news) (hc : (c, oc) ∈ news) (hi : IntsAre vs ns) (hi2 : IntsAre vs2 ns2)
    (hsz : vs.length * vs2.length ≤ sizeLine)
    (hit1 : ∀ Q : Value → Shared → Prop, Q (.ref l) s → wpAny (model prog w) A (eval it1 env) Q E s)
    (hit2 : ∀ C (s' : Shared) (Q : Value → Shared → Prop) (E' : Value → Shared → Prop), s'.heap.get? c = some oc → Q (.ref l2) s' → wpAny (model prog w) A (eval it2 (compEnvC scope cl C env)) Q E' s')
    (helt : ∀ C (s' : Shared) m' a ta b tb (E' : Value → Shared → Prop), a ∈ ns → b ∈ ns2 → s'.heap.Ns C m' → m' x = some (.int a ta) → m' y = some (.int b tb) →
      wpAny (model prog w) A (eval elt (compEnvC scope cl C env)) (fun v s'' => ∃ t tk, v = .int (g a b) t ∧ s'' = { s' with toks := tk }) E' s')
    (h : ∀ D ys h' tk, (∀ p ∈ news, p.1 < D) → Fr h₀ env.locals h' (fun t => if t = z then some (.ref D) else m₀ t) → News h₀ env.locals h' ((D, LCg.lst ys) :: news) → IntsAre ys (ns.flatMap fun a => ns2.map (g a)) → Q .next { s with heap := h', toks := tk })
    (hsw : swapsWith (.ListComp elt (gens2 x y px py it1 it2) scope pos) (some (.Name z pz)) spos.line env = pure true)
    (hclos : closureFor scope env = pure cl) (hcell : ∀ t ∈ scope.names, t.2 ≠ .cell) (hkind : scope.kind = .function)
    (hnames : ∀ t ∈ scope.names, t.2 = .local → scope.names.lookup t.1 = some .local) (hx : scope.names.lookup x = some .local) (hy : scope.names.lookup y = some .local) (hxy : x ≠ y)
    (hz : env.kindOf z = some .local) (hp : (env.scope.kind == .class || (env.scope.kind == .module && env.locals != env.globals)) = false)
    (hs : ∀ v, foldedSetIterable it1 env v = pure v) (hs2 : ∀ C v, foldedSetIterable it2 (compEnvC scope cl C env) v = pure v) :
    wpAny (model prog w) A (exec (.Assign [.Name z pz] (.ListComp elt (gens2 x y px py it1 it2) scope pos) spos) env) Q E s := by
  have Hl : s.heap.IsList l vs.toArray := ⟨_, (N _ hl).1, rfl, _, rfl⟩
  have Hl2 : s.heap.IsList l2 vs2.toArray := ⟨_, (N _ hl2).1, rfl, _, rfl⟩
  rw [exec_Assign_Name_used _ _ _ _ hsw]
  refine wpAny_bind (wpAny_standAt (wpAny_bind ?_))
  show wpAny _ A (do let _ ← comprehension (.ListComp elt (gens2 x y px py it1 it2) scope pos) scope env _ (newList []) false (eval it1 env) (some (assign (.Name z pz) env))) _ _ s
  refine wpAny_bind (wpAny_mono (wpAny_comprehension_free (use := some (assign (.Name z pz) env)) (Q := fun _ s' => Q .next s') rfl hs hclos hkind hnames
    (hit1 _ (wpAny_pyIter_list Hl ?_))) (fun _ s' hq => wpAny_pure (wpAny_pure hq)) fun _ _ e => e)
  generalize hH1 : s.heap.push { cls := .type "list_iterator", data := .fields #[.ref l, .int 0 0] } = H1
  have up1 : ∀ b o, s.heap.get? b = some o → H1.get? b = some o := fun b o e => hH1 ▸ Heap.get?_push_of_some _ e
  have sz1 : H1.objs.size = s.heap.objs.size + 1 := by rw [← hH1, Heap.size_push]
  refine wpAny_newObj_type (wpAny_newFunctionEnv hcell (by intro y hy; simp at hy) (fun h₁ hns₁ hsb₁ => ?_) hkind)
  dsimp only at hns₁ hsb₁ ⊢
  generalize hH2 : H1.push { cls := .type "list", dict := none, data := .seq ([] : List Value).toArray } = H2 at hns₁ hsb₁ ⊢
  have sz2 : H2.objs.size = H1.objs.size + 1 := by rw [← hH2, Heap.size_push]
  have up2 : ∀ b o, H1.get? b = some o → h₁.get? b = some o := fun b o e => hsb₁.extBut b o (by have := Heap.lt_size e; rw [sz2]; exact Nat.ne_of_lt (Nat.lt_succ_of_lt this)) (Heap.get?_push_of_some _ (hH2 ▸ Heap.get?_push_of_some _ e))
  have up : ∀ b o, s.heap.get? b = some o → h₁.get? b = some o := fun b o e => up2 b o (up1 b o e)
  have old : ∀ b o, s.heap.get? b = some o → b ≠ s.heap.objs.size ∧ b ≠ H1.objs.size ∧ b ≠ H2.objs.size := fun b o e => by
    have : @LT.lt Nat _ b s.heap.objs.size := Heap.lt_size e
    refine ⟨?_, ?_, ?_⟩ <;> refine @Nat.ne_of_lt b _ ?_ <;> omega
  have hacc : h₁.get? H1.objs.size = some (LCg.lst []) := hsb₁.extBut _ _ (by rw [sz2]; exact Nat.ne_of_lt (Nat.lt_succ_self _)) (Heap.get?_push_of_some _ (hH2 ▸ Heap.get?_push_size _ rfl))
  have hit₁ : h₁.IsListIter s.heap.objs.size l 0 := by
    have e : H1.IsListIter s.heap.objs.size l 0 := ⟨_, hH1 ▸ Heap.get?_push_size _ rfl, rfl, rfl⟩
    exact e.at fun o e => up2 _ o e
  have o1 := old _ _ (N _ hl).1
  have o2 := old _ _ (N _ hl2).1
  have o3 := old _ _ (N _ hc).1
  have nIC : s.heap.objs.size ≠ H2.objs.size := @Nat.ne_of_lt _ _ (by omega)
  have nDI : H1.objs.size ≠ s.heap.objs.size := @Nat.ne_of_gt _ _ (by omega)
  have nDC : H1.objs.size ≠ H2.objs.size := @Nat.ne_of_lt _ _ (by omega)
  have fresh₀ : ∀ a, s.heap.objs.size ≤ a → h₀.get? a = none := fun a ha => by
    cases e : h₀.get? a with
    | none => rfl
    | some o' => exact absurd (Heap.lt_size (F.keep a o' e)) (Nat.not_lt.mpr ha)
  have loop : ∀ s₃ : Shared, (∃ tk, s₃ = { s with heap := h₁, toks := tk }) → codeAny (model prog w) A (.compLoop (.ListComp elt (gens2 x y px py it1 it2) scope pos) 0 (.ref s.heap.objs.size) (.ref H1.objs.size) (compEnvC scope cl H2.objs.size env))
      (compPost (model prog w) A E (some (assign (.Name z pz) env)) (fun _ s' => Q .next s') (.ref H1.objs.size) H2.objs.size) s₃ := by
    rintro s₃ ⟨tk₃, rfl⟩
    refine outer_loop (l := l) (l2 := l2) (c := c) (oc := oc) (vs := vs) (vs2 := vs2) (ns := ns) (ns2 := ns2) g hh (lookup_relabel_local hx) (lookup_relabel_local hy) hxy (by simp [compEnvC, relabel, hkind]) nDI nDC nIC
      o1.1 o1.2.2 o1.2.1 o2.1 o2.2.2 o2.2.1 o3.1 o3.2.2 o3.2.1 hit₁ (Hl.at fun o e => up _ o e) hi (Hl2.at fun o e => up _ o e) hi2 (up _ _ (N _ hc).1) hacc hns₁ (hs2 _) (hit2 _) hsz (helt _) ?_
    intro h' tk m' ys hk hD hys hn
    have far : ∀ b o, s.heap.get? b = some o → h'.get? b = some o := fun b o e => hk b o (old b o e).2.2 (old b o e).1 (old b o e).2.1 (up b o e)
    show wpAny _ A (assign (.Name z pz) env (.ref H1.objs.size)) _ _ _
    have nLC : env.locals ≠ H2.objs.size := by
      obtain ⟨oL, _, _, hL, _⟩ := F.ns
      exact (old _ _ hL).2.2
    have nLD : env.locals ≠ H1.objs.size := by
      obtain ⟨oL, _, _, hL, _⟩ := F.ns
      exact (old _ _ hL).2.1
    refine wpAny_assign_Name (wpAny_storeName_local hz (F.ns.at' fun o e => far _ o e) (fun h₂ hn₂ hs₂ => ?_) hp)
    refine ⟨m', hn.sameBut hs₂ (Ne.symm nLC), fun h₃ hs₃ => ?_⟩
    have far3 : ∀ b o, b ≠ env.locals → b ≠ H2.objs.size → h'.get? b = some o → h₃.get? b = some o := fun b o b1 b2 e => hs₃.extBut b o b2 (hs₂.extBut b o b1 e)
    have hL₀ : h₀.get? env.locals = none := Heap.get?_none_of_le F.above
    refine h H1.objs.size ys h₃ _ (fun p hp => ?_) ⟨hn₂.sameBut hs₃ nLC, fun b o e => far3 b o (fun q => by rw [q, hL₀] at e; cases e) (old b o (F.keep b o e)).2.2 (far b o (F.keep b o e)), F.above⟩ (fun p hp => ?_) hys
    · have : @LT.lt Nat _ p.1 s.heap.objs.size := Heap.lt_size (N p hp).1
      show @LT.lt Nat _ p.1 H1.objs.size
      omega
    · rcases List.mem_cons.mp hp with rfl | hp
      · exact ⟨far3 _ _ (Ne.symm nLD) nDC hD, Ne.symm nLD, fresh₀ _ (by show (s.heap.objs.size : Nat) ≤ H1.objs.size; omega)⟩
      · exact ⟨far3 _ _ (N p hp).2.1 (old _ _ (N p hp).1).2.2 (far _ _ (N p hp).1), (N p hp).2⟩
  exact codeAny_compStart_list (loop _ ⟨_, rfl⟩) (wpAny_pyIter_listiter hit₁ (loop _ ⟨_, rfl⟩))
end
end Mine
namespace Mine
section
variable {prog : Program} {w : World} {A : Around} {E : Value → Shared → Prop} {s : Shared} {env : Env} {h₀ : Heap} {x : Str} {body : List Stmt} {Q : Flow → Shared → Prop}
def JEnd (h₀ : Heap) (L : Addr) (J : (Str → Option Value) → List (Addr × Obj) → Prop) (own : List (Addr × Obj)) (I : Addr) (s₁ s₂ : Shared) : Prop :=
  ∃ h' tk m' news', s₂ = { s₁ with heap := h', toks := tk } ∧ Fr h₀ L h' m' ∧ News h₀ L h' (own ++ news') ∧ (∀ p ∈ news', p.1 ≠ I) ∧ J m' news'
def JPost (h₀ : Heap) (L : Addr) (J : (Str → Option Value) → List (Addr × Obj) → Prop) (own : List (Addr × Obj)) (I : Addr) (s₁ : Shared) (Q : Flow → Shared → Prop) (f : Flow) (s₂ : Shared) : Prop :=
  match f with
  | .ret v => Q (.ret v) s₂
  | .brk => Q .next s₂
  | _ => JEnd h₀ L J own I s₁ s₂
theorem JEnd.intro {L I : Addr} {J : (Str → Option Value) → List (Addr × Obj) → Prop} {m' : Str → Option Value} {own news' : List (Addr × Obj)} {s₁ : Shared} {h' : Heap} {tk : Nat} (F : Fr h₀ L h' m') (N : News h₀ L h' (own ++ news')) (hn : ∀ p ∈ news', p.1 ≠ I)
    (hj : J m' news') : JEnd h₀ L J own I s₁ { s₁ with heap := h', toks := tk } := ⟨h', tk, m', news', rfl, F, N, hn, hj⟩
theorem loopJ {I : Addr} {fp : List Addr} {n : Nat} {P : Nat → Value → Prop} {St : Nat → Heap → Prop} {m₀ : Str → Option Value} {news : List (Addr × Obj)} (base : Heap → List (Addr × Obj) → Prop) (J : Nat → (Str → Option Value) → List (Addr × Obj) → Prop)
    (W : Walks prog w A I fp [I] n P St) (hLf : env.locals ∉ fp) (hI₀ : h₀.get? I = none) (hnw : ∀ p ∈ news, p.1 ≠ I) (hst : St 0 s.heap) (F : Fr h₀ env.locals s.heap m₀) (N : News h₀ env.locals s.heap news) (hj : J 0 m₀ news)
    (hbase : ∀ i h, St i h → ∃ own, base h own ∧ ∀ b ∈ fp, h₀.get? b = none → ∀ o, h.get? b = some o → (b, o) ∈ own)
    (hown : ∀ i h own, St i h → base h own → ∀ p ∈ own, h.get? p.1 = some p.2 ∧ p.1 ∈ fp ∧ h₀.get? p.1 = none)
    (turn : ∀ i v m₁ news₁ h tk own, i < n → P i v → J i m₁ news₁ → (∀ p ∈ news₁, p.1 ≠ I) → base h own → Fr h₀ env.locals h (fun y => if y = x then some v else m₁ y) → News h₀ env.locals h (own ++ news₁) →
      wpAny (model prog w) A (execs body env) (JPost h₀ env.locals (J (i + 1)) own I { s with heap := h, toks := tk } Q) E { s with heap := h, toks := tk })
    (done : ∀ m₁ news₁ h tk, J n m₁ news₁ → Fr h₀ env.locals h m₁ → News h₀ env.locals h news₁ → Q .next { s with heap := h, toks := tk }) :
    LoopAtV prog w A h₀ env x body Q E (.ref I) s := by
  refine ⟨I, fp, [I], n, P, St, m₀, news, J, rfl, W, hLf, fun b hb => by rw [List.mem_singleton.mp hb]; exact hI₀, fun p hp hm => hnw p hp (List.mem_singleton.mp hm), hst, F, N, hj, ?_, ?_⟩
  · rintro i v m₁ news₁ s₁ own ⟨hh', tk', rfl⟩ hin hP hJ hoff hsub hget hall hst₁ F₁ N₁
    obtain ⟨own', hb', hm'⟩ := hbase _ _ hst₁
    have ho := hown _ _ _ hst₁ hb'
    have hLn : ∀ p ∈ own', p.1 ≠ env.locals := fun p hp q => hLf (q ▸ (ho p hp).2.1)
    have N₂ : News h₀ env.locals hh' (own' ++ news₁) := fun p hp => by
      rcases List.mem_append.mp hp with hp | hp
      · exact ⟨(ho p hp).1, hLn p hp, (ho p hp).2.2⟩
      · exact N₁ p (List.mem_append_right _ hp)
    refine wpAny_mono (turn i v m₁ news₁ hh' tk' own' hin hP hJ (fun p hp q => hoff p hp (List.mem_singleton.mpr q)) hb' F₁ N₂) (fun f s₂ p => ?_) fun _ _ e => e
    have fin : JEnd h₀ env.locals (J (i + 1)) own' I { s with heap := hh', toks := tk' } s₂ → LoopStepU h₀ env.locals [I] own (J (i + 1)) { s with heap := hh', toks := tk' } .next s₂ := by
      rintro ⟨h', tk, m', news', e, F', N', hn, hm⟩
      refine ⟨rfl, h', tk, m', news', e, F', fun p hp => ?_, fun p hp hq => hn p hp (List.mem_singleton.mp hq), hm⟩
      rcases List.mem_append.mp hp with hp | hp
      · exact N' p (List.mem_append_left _ (hm' p.1 (hsub p hp) (N₁ p (List.mem_append_left _ hp)).2.2 p.2 (hget p hp)))
      · exact N' p (List.mem_append_right _ hp)
    cases f with
    | ret v => exact .ret p
    | brk => exact .brk p
    | next => exact .next (fin p)
    | cont => exact .cont (fin p)
  · rintro h' tk m' news' F' N' _ hJ
    exact done m' news' h' tk hJ F' N'
theorem iter_rangeJ {r : Addr} {a₀ b₀ : Int} {t₀ u₀ v₀ : Tok} {n : Nat} {m₀ : Str → Option Value} {news : List (Addr × Obj)} (J : Nat → (Str → Option Value) → List (Addr × Obj) → Prop)
    (hh : A.handled = none) (hr : IsRange s.heap r a₀ b₀ 1 t₀ u₀ v₀) (hsmall : Builtin.Range.small a₀ b₀ 1 = true) (hn : Builtin.Range.rangeSize a₀ b₀ 1 = (n : Int)) (F : Fr h₀ env.locals s.heap m₀) (N : News h₀ env.locals s.heap news) (hj : J 0 m₀ news)
    (turn : ∀ i t m₁ news₁ h tk I oI, i < n → J i m₁ news₁ → (∀ p ∈ news₁, p.1 ≠ I) → Fr h₀ env.locals h (fun y => if y = x then some (.int (a₀ + (i : Int)) t) else m₁ y) → News h₀ env.locals h ([(I, oI)] ++ news₁) →
      wpAny (model prog w) A (execs body env) (JPost h₀ env.locals (J (i + 1)) [(I, oI)] I { s with heap := h, toks := tk } Q) E { s with heap := h, toks := tk })
    (done : ∀ m₁ news₁ h tk, J n m₁ news₁ → Fr h₀ env.locals h m₁ → News h₀ env.locals h news₁ → Q .next { s with heap := h, toks := tk }) :
    wpAny (model prog w) A (pyIter (.ref r)) (fun it s₂ => LoopAtV prog w A h₀ env x body Q E it s₂) E s := by
  refine wpAny_pyIter_range hr hsmall ?_
  have W := LCg.range_walks (prog := prog) (w := w) (I := s.heap.objs.size) hh a₀ n
  refine loopJ (fun h own => ∃ oI, own = [(s.heap.objs.size, oI)] ∧ h.get? s.heap.objs.size = some oI) J W ?_ (next_is_new F) ?_ (by show IsRangeIter _ _ _ _ _; rw [hn]; simpa using Heap.get?_push_size _ rfl) (F.push _) (fun p hp => ⟨Heap.get?_push_of_some _ (N p hp).1, (N p hp).2⟩) hj ?_ ?_ ?_ done
  · intro hm
    exact absurd F.ns.lt ((List.mem_singleton.mp hm) ▸ Nat.lt_irrefl _)
  · exact fun p hp => Nat.ne_of_lt (Heap.lt_size (N p hp).1)
  · intro i h st
    refine ⟨[(_, _)], ⟨_, rfl, st⟩, fun b hb _ o ho => ?_⟩
    rw [List.mem_singleton.mp hb] at ho ⊢
    rw [show h.get? s.heap.objs.size = _ from st] at ho
    cases ho
    exact List.mem_singleton.mpr rfl
  · rintro i h own st ⟨oI, rfl, ho⟩ p hp
    rw [List.mem_singleton.mp hp]
    exact ⟨ho, List.mem_singleton.mpr rfl, next_is_new F⟩
  · rintro i v m₁ news₁ h tk own hi ⟨t, rfl⟩ hJ hne ⟨oI, rfl, ho⟩ F₁ N₁
    exact turn i t m₁ news₁ h tk _ oI hi hJ hne F₁ N₁
theorem iter_listJ {l : Addr} {its : Array Value} {k : Nat} {m₀ : Str → Option Value} {news : List (Addr × Obj)} (J : Nat → (Str → Option Value) → List (Addr × Obj) → Prop)
    (hh : A.handled = none) (F : Fr h₀ env.locals s.heap m₀) (N : News h₀ env.locals s.heap news) (hl : (l, listOf its k) ∈ news) (hj : J 0 m₀ news)
    (turn : ∀ i v m₁ news₁ h tk I oI ol, its[i]? = some v → J i m₁ news₁ → (∀ p ∈ news₁, p.1 ≠ I) → I ≠ l → Fr h₀ env.locals h (fun y => if y = x then some v else m₁ y) → News h₀ env.locals h ([(I, oI), (l, ol)] ++ news₁) →
      wpAny (model prog w) A (execs body env) (JPost h₀ env.locals (J (i + 1)) [(I, oI), (l, ol)] I { s with heap := h, toks := tk } Q) E { s with heap := h, toks := tk })
    (done : ∀ m₁ news₁ h tk, J its.size m₁ news₁ → Fr h₀ env.locals h m₁ → News h₀ env.locals h news₁ → Q .next { s with heap := h, toks := tk }) :
    wpAny (model prog w) A (pyIter (.ref l)) (fun it s₂ => LoopAtV prog w A h₀ env x body Q E it s₂) E s := by
  have z := N _ hl
  have hls : s.heap.IsList l its := ⟨_, z.1, rfl, _, rfl⟩
  have hne : l ≠ s.heap.objs.size := Nat.ne_of_lt (Heap.lt_size z.1)
  refine wpAny_pyIter_list hls ?_
  have W := Walks.list (prog := prog) (w := w) hh s.heap.objs.size l hne its
  refine loopJ (fun h own => ∃ oI ol, own = [(s.heap.objs.size, oI), (l, ol)] ∧ h.get? s.heap.objs.size = some oI ∧ h.get? l = some ol) J W ?_ (next_is_new F) ?_ ⟨⟨_, Heap.get?_push_size _ rfl, rfl, rfl⟩, hls.at fun o e => Heap.get?_push_of_some _ e⟩ (F.push _) (fun p hp => ⟨Heap.get?_push_of_some _ (N p hp).1, (N p hp).2⟩) hj ?_ ?_ ?_ done
  · intro hm
    rcases List.mem_cons.mp hm with e | hm
    · exact absurd F.ns.lt (e ▸ Nat.lt_irrefl _)
    · exact z.2.1 (List.mem_singleton.mp hm).symm
  · exact fun p hp => Nat.ne_of_lt (Heap.lt_size (N p hp).1)
  · rintro i h ⟨⟨oI, e1, _⟩, ⟨ol, e2, _⟩⟩
    refine ⟨[(_, _), (_, _)], ⟨oI, ol, rfl, e1, e2⟩, fun b hb _ o ho => ?_⟩
    rcases List.mem_cons.mp hb with rfl | hb
    · rw [e1] at ho; cases ho; exact List.mem_cons_self
    · rw [List.mem_singleton.mp hb] at ho ⊢
      rw [e2] at ho; cases ho; exact List.mem_cons_of_mem _ List.mem_cons_self
  · rintro i h own st ⟨oI, ol, rfl, ho, ho2⟩ p hp
    rcases List.mem_cons.mp hp with rfl | hp
    · exact ⟨ho, List.mem_cons_self, next_is_new F⟩
    · rw [List.mem_singleton.mp hp]
      exact ⟨ho2, List.mem_cons_of_mem _ List.mem_cons_self, z.2.2⟩
  · rintro i v m₁ news₁ h tk own hi hP hJ hne' ⟨oI, ol, rfl, ho, ho2⟩ F₁ N₁
    exact turn i v m₁ news₁ h tk _ oI ol hP hJ hne' (Ne.symm hne) F₁ N₁
def mapT (T : List (Str × Value)) (stored : List Str) (u m₀ : Str → Option Value) (y : Str) : Option Value := match T.lookup y with
  | some v => some v
  | none => if stored.contains y then u y else m₀ y
def AllT (m : Str → Option Value) : List (Str × Value) → Prop
  | [] => True
  | p :: r => m p.1 = some p.2 ∧ AllT m r
theorem AllT.look {m : Str → Option Value} : ∀ {T : List (Str × Value)}, AllT m T → ∀ y v, T.lookup y = some v → m y = some v
  | [], _, _, _, h => by cases h
  | (a, b) :: r, x, y, v, h => by
    rw [List.lookup_cons] at h
    by_cases hy : (y == a) = true
    · simp only [hy] at h
      have e : y = a := by simpa using hy
      cases h
      rw [e]; exact x.1
    · have hy' : (y == a) = false := by simpa using hy
      simp only [hy'] at h
      exact AllT.look x.2 y v h
theorem lookup_none_ne {T : List (Str × Value)} {y a : Str} (h : T.lookup y = none) (ha : a ∈ T.map (·.1)) : y ≠ a := by
  rintro rfl
  induction T with
  | nil => cases ha
  | cons p r ih =>
    rw [List.lookup_cons] at h
    by_cases hy : (y == p.1) = true
    · simp only [hy] at h; cases h
    · have hy' : (y == p.1) = false := by simpa using hy
      simp only [hy'] at h
      rcases List.mem_cons.mp ha with e | ha
      · simp [e] at hy
      · exact ih h ha
theorem contains_ne {l : List Str} {y a : Str} (h : l.contains y = false) (ha : a ∈ l) : y ≠ a := by
  rintro rfl
  simp [ha] at h
def JT (x : Str) (stored : List Str) (m₀ : Str → Option Value) (J : List (Str × Value) → List (Addr × Obj) → Prop) (m : Str → Option Value) (nw : List (Addr × Obj)) : Prop :=
  ∃ T, J T nw ∧ AllT m T ∧ ∀ y, y ≠ x → T.lookup y = none → stored.contains y = false → m y = m₀ y
theorem JT.map {stored : List Str} {m₀ m : Str → Option Value} {T : List (Str × Value)} {v : Option Value} (h1 : AllT m T) (h2 : ∀ y, y ≠ x → T.lookup y = none → stored.contains y = false → m y = m₀ y) :
    (fun y => if y = x then v else m y) = fun y => if y = x then v else mapT T stored m m₀ y := by
  funext y
  by_cases hx : y = x
  · simp only [if_pos hx]
  · simp only [if_neg hx, mapT]
    cases hl : T.lookup y with
    | some w => exact h1.look y w hl
    | none =>
      cases hc : stored.contains y with
      | true => simp
      | false => simpa using h2 y hx hl hc
theorem iter_rangeT {r : Addr} {a₀ b₀ : Int} {t₀ u₀ v₀ : Tok} {n : Nat} {m₀ : Str → Option Value} {news : List (Addr × Obj)} (stored : List Str) (J : Nat → List (Str × Value) → List (Addr × Obj) → Prop)
    (h0 : ∃ T₀, J 0 T₀ news ∧ AllT m₀ T₀)
    (hh : A.handled = none) (hr : IsRange s.heap r a₀ b₀ 1 t₀ u₀ v₀) (hsmall : Builtin.Range.small a₀ b₀ 1 = true) (hn : Builtin.Range.rangeSize a₀ b₀ 1 = (n : Int)) (F : Fr h₀ env.locals s.heap m₀) (N : News h₀ env.locals s.heap news)
    (turn : ∀ i t T u news₁ h tk I oI, i < n → J i T news₁ → (∀ p ∈ news₁, p.1 ≠ I) → Fr h₀ env.locals h (fun y => if y = x then some (.int (a₀ + (i : Int)) t) else mapT T stored u m₀ y) → News h₀ env.locals h ([(I, oI)] ++ news₁) →
      wpAny (model prog w) A (execs body env) (JPost h₀ env.locals (JT x stored m₀ (J (i + 1))) [(I, oI)] I { s with heap := h, toks := tk } Q) E { s with heap := h, toks := tk })
    (done : ∀ T u news₁ h tk, J n T news₁ → Fr h₀ env.locals h (fun y => if y = x then u y else mapT T stored u m₀ y) → News h₀ env.locals h news₁ → Q .next { s with heap := h, toks := tk }) :
    wpAny (model prog w) A (pyIter (.ref r)) (fun it s₂ => LoopAtV prog w A h₀ env x body Q E it s₂) E s := by
  refine iter_rangeJ (fun i => JT x stored m₀ (J i)) hh hr hsmall hn F N ⟨h0.choose, h0.choose_spec.1, h0.choose_spec.2, fun _ _ _ _ => rfl⟩ ?_ ?_
  · rintro i t m₁ news₁ h tk I oI hi ⟨T, hJ, h1, h2⟩ hne F₁ N₁
    rw [JT.map h1 h2] at F₁
    exact turn i t T m₁ news₁ h tk I oI hi hJ hne F₁ N₁
  · rintro m₁ news₁ h tk ⟨T, hJ, h1, h2⟩ F₁ N₁
    refine done T m₁ news₁ h tk hJ ?_ N₁
    have e : (fun y => if y = x then m₁ y else mapT T stored m₁ m₀ y) = m₁ := by
      have := JT.map (x := x) (v := m₁ x) h1 h2
      funext y
      have e := congrFun this y
      by_cases hx : y = x
      · simp only [if_pos hx]
      · simp only [if_neg hx] at e ⊢; exact e.symm
    rw [e]; exact F₁
theorem iter_listT {l : Addr} {its : Array Value} {k : Nat} {m₀ : Str → Option Value} {news : List (Addr × Obj)} (stored : List Str) (J : Nat → List (Str × Value) → List (Addr × Obj) → Prop)
    (h0 : ∃ T₀, J 0 T₀ news ∧ AllT m₀ T₀)
    (hh : A.handled = none) (F : Fr h₀ env.locals s.heap m₀) (N : News h₀ env.locals s.heap news) (hl : (l, listOf its k) ∈ news)
    (turn : ∀ i v T u news₁ h tk I oI ol, its[i]? = some v → J i T news₁ → (∀ p ∈ news₁, p.1 ≠ I) → I ≠ l → Fr h₀ env.locals h (fun y => if y = x then some v else mapT T stored u m₀ y) → News h₀ env.locals h ([(I, oI), (l, ol)] ++ news₁) →
      wpAny (model prog w) A (execs body env) (JPost h₀ env.locals (JT x stored m₀ (J (i + 1))) [(I, oI), (l, ol)] I { s with heap := h, toks := tk } Q) E { s with heap := h, toks := tk })
    (done : ∀ T u news₁ h tk, J its.size T news₁ → Fr h₀ env.locals h (fun y => if y = x then u y else mapT T stored u m₀ y) → News h₀ env.locals h news₁ → Q .next { s with heap := h, toks := tk }) :
    wpAny (model prog w) A (pyIter (.ref l)) (fun it s₂ => LoopAtV prog w A h₀ env x body Q E it s₂) E s := by
  refine iter_listJ (fun i => JT x stored m₀ (J i)) hh F N hl ⟨h0.choose, h0.choose_spec.1, h0.choose_spec.2, fun _ _ _ _ => rfl⟩ ?_ ?_
  · rintro i v m₁ news₁ h tk I oI ol hi ⟨T, hJ, h1, h2⟩ hne hIl F₁ N₁
    rw [JT.map h1 h2] at F₁
    exact turn i v T m₁ news₁ h tk I oI ol hi hJ hne hIl F₁ N₁
  · rintro m₁ news₁ h tk ⟨T, hJ, h1, h2⟩ F₁ N₁
    refine done T m₁ news₁ h tk hJ ?_ N₁
    have e : (fun y => if y = x then m₁ y else mapT T stored m₁ m₀ y) = m₁ := by
      have := JT.map (x := x) (v := m₁ x) h1 h2
      funext y
      have e := congrFun this y
      by_cases hx : y = x
      · simp only [if_pos hx]
      · simp only [if_neg hx] at e ⊢; exact e.symm
    rw [e]; exact F₁
theorem look_none {T : List (Str × Value)} {y : Str} (h : ∀ a ∈ T.map (·.1), y ≠ a) : T.lookup y = none := by
  induction T with
  | nil => rfl
  | cons p r ih =>
    rw [List.lookup_cons]
    have : (y == p.1) = false := by simpa using h p.1 List.mem_cons_self
    simp only [this]
    exact ih fun a ha => h a (List.mem_cons_of_mem _ ha)
theorem mapT_none {T T' : List (Str × Value)} {stored : List Str} {u m₀ : Str → Option Value} {y : Str} (h : T'.lookup y = none) (h3 : stored.contains y = false) (e : T.map (·.1) = T'.map (·.1)) : mapT T stored u m₀ y = m₀ y := by
  have h' : T.lookup y = none := look_none fun a ha => lookup_none_ne h (e ▸ ha)
  simp only [mapT, h', h3, Bool.false_eq_true, if_false]
theorem AllT.mem {m : Str → Option Value} : ∀ {T : List (Str × Value)}, AllT m T → ∀ p ∈ T, m p.1 = some p.2
  | [], _, _, h => nomatch h
  | _ :: _, x, p, h => by
    rcases List.mem_cons.mp h with rfl | h
    · exact x.1
    · exact AllT.mem x.2 p h
theorem while_K {σ : Type} {L : Addr} {test : Expr} {pos : Pos} {m₀ : Str → Option Value} (Led : σ → List (Addr × Obj)) (ps : σ → List (Str × Value)) (stored : List Str) (P : σ → Prop) (μ : σ → Nat)
    (F : Fr h₀ L s.heap m₀) (h0 : ∃ c₀, AllT m₀ (ps c₀) ∧ News h₀ L s.heap (Led c₀) ∧ P c₀)
    (turn : ∀ (c : σ) (u : Str → Option Value) h tk, P c → Fr h₀ L h (kstB (fun z => if stored.contains z then u z else m₀ z) (ps c)) → News h₀ L h (Led c) →
      wpAny (model prog w) A (isTrue test env (eval test env)) (fun b s₂ =>
        if b = true then wpAny (model prog w) A (execs body env) (KswPost h₀ L s Led ps (fun _ => True) stored m₀ P μ Q c) E s₂ else Q .next s₂) E { s with heap := h, toks := tk })
    (hE : PassesOwn (model prog w) A env E := by passes_own) :
    wpAny (model prog w) A (exec (.While test body [] pos) env) Q E s := by
  obtain ⟨c₀, hk, N, hP⟩ := h0
  exact ksw_while Led ps (fun _ => True) stored P μ c₀ F N trivial hk.mem hP (fun c u h tk _ hp F N => turn c u h tk hp F N) hE
end
end Mine
namespace Mine
def uAt (bits i : Nat) : Int := 2 ^ ((bits : Int) - 1 - (0 + (i : Int))).toNat
def bitsOf (v m bits i : Nat) : List Int := if ((m : Int).fdiv (uAt bits i)).fmod 2 = 1 then [((v : Int).fdiv (uAt bits i)).fmod 2] else [0, 1]
def numsAt (v m bits : Nat) : Nat → List Int
  | 0 => [0]
  | i + 1 => (numsAt v m bits i).flatMap fun a => (bitsOf v m bits i).map fun b => 2 * a + b
theorem bitsOf_len (v m bits i : Nat) : (bitsOf v m bits i).length ≤ 2 := by unfold bitsOf; split <;> simp
theorem flat_len {α β : Type} (f : α → List β) (k : Nat) (hf : ∀ a, (f a).length ≤ k) : ∀ l : List α, (l.flatMap f).length ≤ l.length * k
  | [] => by simp
  | a :: r => by
    have h1 := hf a
    have h2 := flat_len f k hf r
    rw [List.flatMap_cons, List.length_append, List.length_cons, Nat.succ_mul]
    omega
theorem numsAt_len (v m bits : Nat) : ∀ i, (numsAt v m bits i).length ≤ 2 ^ i
  | 0 => by simp [numsAt]
  | i + 1 => by
    have h1 := numsAt_len v m bits i
    have h2 : (numsAt v m bits (i + 1)).length ≤ (numsAt v m bits i).length * 2 := flat_len _ 2 (fun a => by rw [List.length_map]; exact bitsOf_len ..) _
    rw [Nat.pow_succ]
    omega
theorem vs_len {vs : List Value} {v m bits i : Nat} (h : IntsAre vs (numsAt v m bits i)) (hi : i ≤ 5) : vs.length ≤ 32 := by
  have e := h.length
  have e2 := numsAt_len v m bits i
  have e3 : 2 ^ i ≤ 2 ^ 5 := Nat.pow_le_pow_right (by decide) hi
  omega
def nums (v m bits : Nat) : List Int := ((List.range (2 ^ bits)).filter fun n => n &&& m == v).map fun (n : Nat) => (n : Int)
theorem nums_all : ∀ bits ∈ ([3, 4, 5] : List Nat), ∀ m < 2 ^ bits, ∀ v < 2 ^ bits, v &&& m = v → numsAt v m bits bits = nums v m bits := by decide +kernel
theorem bits_mem {bits : Nat} (h3 : 3 ≤ bits) (h5 : bits ≤ 5) : bits ∈ ([3, 4, 5] : List Nat) := by
  rcases (by omega : bits = 3 ∨ bits = 4 ∨ bits = 5) with rfl | rfl | rfl <;> decide
theorem nums_is {v m bits : Nat} (h3 : 3 ≤ bits) (h5 : bits ≤ 5) (hm : m < 2 ^ bits) (hv : v &&& m = v) : numsAt v m bits bits = nums v m bits :=
  nums_all bits (bits_mem h3 h5) m hm v (Nat.lt_of_le_of_lt (hv ▸ Nat.and_le_right) hm) hv
def mfold (x1 x2 : Int) (l : List Int) (k : Int) : List Int := if (x1.fdiv (2 ^ k.toNat)).fmod 2 = 1 ∧ (x2.fdiv (2 ^ k.toNat)).fmod 2 = 1 then l ++ [2 ^ k.toNat] else l
theorem msum_all : ∀ bits ∈ ([3, 4, 5] : List Nat), ∀ m < 2 ^ bits, ∀ v < 2 ^ bits, ((rangeKs 0 ((bits : Int) - 0).toNat).foldl (mfold (Int.ofNat m) (Int.ofNat v)) []).sum = Int.ofNat (v &&& m) := by decide +kernel
theorem msum_is {bits : Nat} {x1 x2 : Int} (h3 : 3 ≤ bits) (h5 : bits ≤ 5) (h1 : 0 ≤ x1) (h1' : x1 < 2 ^ (bits : Int).toNat) (h2 : 0 ≤ x2) (h2' : x2 < 2 ^ (bits : Int).toNat) :
    ((rangeKs 0 ((bits : Int) - 0).toNat).foldl (mfold x1 x2) []).sum = Int.ofNat (x2.toNat &&& x1.toNat) := by
  have e : ((2 : Int) ^ (bits : Int).toNat) = ((2 ^ bits : Nat) : Int) := by simp
  rw [e] at h1' h2'
  have := msum_all bits (bits_mem h3 h5) x1.toNat (by omega) x2.toNat (by omega)
  rwa [Int.ofNat_eq_natCast, Int.ofNat_eq_natCast, Int.toNat_of_nonneg h1, Int.toNat_of_nonneg h2] at this
theorem mfold_grows (x1 x2 : Int) : KPfGrows (mfold x1 x2) := by
  intro l k
  unfold mfold
  split
  · exact Nat.le_of_eq (List.length_append)
  · exact Nat.le_succ _
def cfold (ns : List Int) (l : List Int) (k : Int) : List Int := if (ns.any fun x => x == k) = true then l ++ [k] else l
theorem cfold_grows (ns : List Int) : KPfGrows (cfold ns) := by
  intro l k
  unfold cfold
  split
  · exact Nat.le_of_eq (List.length_append)
  · exact Nat.le_succ _
theorem cfold_is (ns : List Int) : ∀ l acc : List Int, l.foldl (cfold ns) acc = acc ++ l.filter fun k => ns.any fun x => x == k
  | [], acc => by simp
  | a :: r, acc => by
    rw [List.foldl_cons, cfold_is ns r, cfold]
    by_cases h : (ns.any fun x => x == a) = true
    · rw [if_pos h, List.filter_cons_of_pos (p := fun k => ns.any fun x => x == k) h, List.append_assoc]; rfl
    · rw [if_neg h, List.filter_cons_of_neg (p := fun k => ns.any fun x => x == k) h]
def size0 (lo bits : Nat) : Int := if 0 < (lo : Int) then Builtin.bitAnd (lo : Int) (-(lo : Int)) else 1 * 2 ^ (bits : Int).toNat
def shrink (lo high : Int) : Nat → Int → Int
  | 0, s => s
  | n + 1, s => if high < lo + s - 1 then shrink lo high n (s.fdiv 2) else s
def sizeAt (lo high bits : Nat) : Int := shrink lo high 6 (size0 lo bits)
def consec (a : Nat) : Nat → List Int
  | 0 => []
  | n + 1 => (a : Int) :: consec (a + 1) n
theorem consec_append (a : Nat) : ∀ n k, consec a n ++ consec (a + n) k = consec a (n + k)
  | 0, k => by simp [consec]
  | n + 1, k => by
    rw [show n + 1 + k = (n + k) + 1 by omega]
    simp only [consec, List.cons_append]
    rw [← consec_append (a + 1) n k, show a + (n + 1) = a + 1 + n by omega]
theorem sizeAt_all : ∀ bits ∈ ([3, 4, 5] : List Nat), ∀ high < 2 ^ bits, ∀ lo < high + 1,
    0 ≤ sizeAt lo high bits ∧ 1 ≤ (sizeAt lo high bits).toNat ∧ lo + (sizeAt lo high bits).toNat ≤ high + 1 ∧ lo &&& (2 ^ bits - (sizeAt lo high bits).toNat) = lo ∧
      (sizeAt lo high bits).toNat ≤ 2 ^ bits ∧ nums lo (2 ^ bits - (sizeAt lo high bits).toNat) bits = consec lo (sizeAt lo high bits).toNat := by decide +kernel
theorem shrink_done {lo high s : Int} (h : ¬ high < lo + s - 1) : ∀ n, shrink lo high n s = s
  | 0 => rfl
  | n + 1 => by rw [shrink, if_neg h]
theorem shrink_step {lo high s : Int} (h : high < lo + s - 1) (n : Nat) : shrink lo high (n + 1) s = shrink lo high n (s.fdiv 2) := by rw [shrink, if_pos h]
theorem size0_pos {lo bits : Nat} (h : 0 < (lo : Int)) : shrink (lo : Int) (hi : Int) 6 (Builtin.bitAnd (lo : Int) (-(lo : Int))) = shrink (lo : Int) hi 6 (size0 lo bits) := by rw [size0, if_pos h]
theorem size0_neg {lo bits : Nat} (h : ¬ 0 < (lo : Int)) : shrink (lo : Int) (hi : Int) 6 (1 * 2 ^ (bits : Int).toNat) = shrink (lo : Int) hi 6 (size0 lo bits) := by rw [size0, if_neg h]
theorem ends_all : ∀ bits ∈ ([3, 4, 5] : List Nat), ∀ m < 2 ^ bits, ∀ v < 2 ^ bits, v &&& m = v →
    1 ≤ (nums v m bits).length ∧ (nums v m bits).length ≤ 32 ∧ (nums v m bits).getD 0 0 = Int.ofNat v ∧ (nums v m bits).getD ((nums v m bits).length - 1) 0 = Int.ofNat (v + (2 ^ bits - 1 - m)) := by decide +kernel
theorem ends_is {v m bits : Nat} (h3 : 3 ≤ bits) (h5 : bits ≤ 5) (hm : m < 2 ^ bits) (hv : v &&& m = v) :
    1 ≤ (nums v m bits).length ∧ (nums v m bits).length ≤ 32 ∧ (nums v m bits).getD 0 0 = Int.ofNat v ∧ (nums v m bits).getD ((nums v m bits).length - 1) 0 = Int.ofNat (v + (2 ^ bits - 1 - m)) :=
  ends_all bits (bits_mem h3 h5) m hm v (Nat.lt_of_le_of_lt (hv ▸ Nat.and_le_right) hm) hv
end Mine
namespace Mine
theorem and_cast (a b : Nat) : Builtin.bitAnd (a : Int) (b : Int) = ((a &&& b : Nat) : Int) := by
  have h1 : decide ((0 : Int) ≤ (a : Int)) = true := decide_eq_true (by omega)
  have h2 : decide ((0 : Int) ≤ (b : Int)) = true := decide_eq_true (by omega)
  unfold Builtin.bitAnd
  rw [h1, h2]
  rfl
theorem xor_all : ∀ a < 32, ∀ b < 32, Builtin.bitXor (Int.ofNat a) (Int.ofNat b) = Int.ofNat (a ^^^ b) := by decide +kernel
theorem bit_eq {a b : Nat} (h : a &&& b = a) (i : Nat) : a.testBit i = true → b.testBit i = true := fun hi => by
  have := congrArg (fun x => Nat.testBit x i) h
  simp only [Nat.testBit_and, hi, Bool.true_and] at this
  exact this
section
variable {bits v m u k : Nat}
theorem within_iff (hm : m < 2 ^ bits) (hv : v &&& m = v) (hk : k < 2 ^ bits) (hu : u &&& k = u) : (m &&& k = k ∧ v &&& k = u) ↔ ∀ n < 2 ^ bits, n &&& m = v → n &&& k = u := by
  have hvb : v < 2 ^ bits := Nat.lt_of_le_of_lt (hv ▸ Nat.and_le_right) hm
  constructor
  · rintro ⟨h1, h2⟩ n _ hn
    rw [← h1, ← Nat.and_assoc, hn, h2]
  · intro h
    have h2 : v &&& k = u := h v hvb hv
    refine ⟨?_, h2⟩
    have hx : (v ||| (m ^^^ (2 ^ bits - 1))) < 2 ^ bits := Nat.or_lt_two_pow hvb (Nat.xor_lt_two_pow hm (by have := Nat.two_pow_pos bits; omega))
    have h3 := h _ hx (by
      apply Nat.eq_of_testBit_eq
      intro i
      have hb := bit_eq hv i
      simp only [Nat.testBit_and, Nat.testBit_or, Nat.testBit_xor, Nat.testBit_two_pow_sub_one]
      by_cases hi : i < bits
      · cases h4 : v.testBit i <;> cases h5 : m.testBit i <;> simp_all
      · have h5 : m.testBit i = false := Nat.testBit_lt_two_pow (Nat.lt_of_lt_of_le hm (Nat.pow_le_pow_right (by decide) (by omega)))
        cases h4 : v.testBit i <;> simp_all)
    apply Nat.eq_of_testBit_eq
    intro i
    have h6 := congrArg (fun x => Nat.testBit x i) h3
    have h7 := congrArg (fun x => Nat.testBit x i) h2
    have hb := bit_eq hv i
    simp only [Nat.testBit_and, Nat.testBit_or, Nat.testBit_xor, Nat.testBit_two_pow_sub_one] at h6 h7 ⊢
    by_cases hi : i < bits
    · cases h4 : v.testBit i <;> cases h5 : m.testBit i <;> cases h8 : k.testBit i <;> simp_all
    · have h5 : k.testBit i = false := Nat.testBit_lt_two_pow (Nat.lt_of_lt_of_le hk (Nat.pow_le_pow_right (by decide) (by omega)))
      simp [h5]
theorem meet_iff (hm : m < 2 ^ bits) (hv : v &&& m = v) (hk : k < 2 ^ bits) (hu : u &&& k = u) : ((v ^^^ u) &&& m) &&& k = 0 ↔ ∃ n, n < 2 ^ bits ∧ n &&& m = v ∧ n &&& k = u := by
  have hvb : v < 2 ^ bits := Nat.lt_of_le_of_lt (hv ▸ Nat.and_le_right) hm
  have hub : u < 2 ^ bits := Nat.lt_of_le_of_lt (hu ▸ Nat.and_le_right) hk
  constructor
  · intro h
    refine ⟨v ||| u, Nat.or_lt_two_pow hvb hub, ?_, ?_⟩ <;>
    · apply Nat.eq_of_testBit_eq
      intro i
      have h6 := congrArg (fun x => Nat.testBit x i) h
      have hb := bit_eq hv i
      have hc := bit_eq hu i
      simp only [Nat.testBit_and, Nat.testBit_or, Nat.testBit_xor, Nat.zero_testBit] at h6 ⊢
      cases h4 : v.testBit i <;> cases h5 : m.testBit i <;> cases h8 : k.testBit i <;> cases h9 : u.testBit i <;> simp_all
  · rintro ⟨n, _, rfl, rfl⟩
    apply Nat.eq_of_testBit_eq
    intro i
    simp only [Nat.testBit_and, Nat.testBit_xor, Nat.zero_testBit]
    cases n.testBit i <;> cases m.testBit i <;> cases k.testBit i <;> rfl
end
theorem mem_nums {k : Int} {v m bits : Nat} : k ∈ nums v m bits ↔ ∃ n, n < 2 ^ bits ∧ n &&& m = v ∧ k = (n : Int) := by
  unfold nums
  simp only [List.mem_map, List.mem_filter, List.mem_range, beq_iff_eq]
  constructor
  · rintro ⟨n, ⟨h1, h2⟩, rfl⟩; exact ⟨n, h1, h2, rfl⟩
  · rintro ⟨n, h1, h2, rfl⟩; exact ⟨n, ⟨h1, h2⟩, rfl⟩
def both (v m u k bits : Nat) : List Int := ((List.range (2 ^ bits)).filter fun n => (n &&& m == v) && (n &&& k == u)).map fun (n : Nat) => (n : Int)
theorem both_comm (v m u k bits : Nat) : both v m u k bits = both u k v m bits := by
  unfold both
  congr 1
  exact List.filter_congr fun n _ => Bool.and_comm _ _
theorem common_is (v m u k bits : Nat) : (nums v m bits).filter (fun a => (nums u k bits).any fun b => b == a) = both v m u k bits := by
  unfold both
  rw [show nums v m bits = ((List.range (2 ^ bits)).filter fun n => n &&& m == v).map fun (n : Nat) => (n : Int) from rfl, List.filter_map, List.filter_filter]
  congr 1
  refine List.filter_congr fun n hn => ?_
  rw [Bool.and_comm]
  congr 1
  rw [Bool.eq_iff_iff]
  simp only [Function.comp, List.any_eq_true, beq_iff_eq]
  constructor
  · rintro ⟨b, hb, rfl⟩
    obtain ⟨n', _, h2, h3⟩ := mem_nums.mp hb
    have : n = n' := by omega
    rw [this]; exact h2
  · intro h
    exact ⟨_, mem_nums.mpr ⟨n, List.mem_range.mp hn, h, rfl⟩, rfl⟩
theorem both_self {v m u k bits : Nat} : both v m u k bits = nums v m bits ↔ ∀ n < 2 ^ bits, n &&& m = v → n &&& k = u := by
  rw [← common_is, List.filter_eq_self]
  constructor
  · intro h n hn hv
    have := h n (mem_nums.mpr ⟨n, hn, hv, rfl⟩)
    simp only [List.any_eq_true, beq_iff_eq] at this
    obtain ⟨b, hb, e⟩ := this
    obtain ⟨n', _, h2, h3⟩ := mem_nums.mp hb
    have : n = n' := by omega
    rw [this]; exact h2
  · intro h a ha
    obtain ⟨n, hn, hv, rfl⟩ := mem_nums.mp ha
    simp only [List.any_eq_true, beq_iff_eq]
    exact ⟨_, mem_nums.mpr ⟨n, hn, h n hn hv, rfl⟩, rfl⟩
theorem both_nil {v m u k bits : Nat} : both v m u k bits = [] ↔ ¬ ∃ n, n < 2 ^ bits ∧ n &&& m = v ∧ n &&& k = u := by
  unfold both
  rw [List.map_eq_nil_iff, List.filter_eq_nil_iff]
  constructor
  · rintro h ⟨n, hn, h1, h2⟩
    exact h n (List.mem_range.mpr hn) (by simp [h1, h2])
  · intro h n hn h1
    simp only [Bool.and_eq_true, beq_iff_eq] at h1
    exact h ⟨n, List.mem_range.mp hn, h1.1, h1.2⟩
section
variable {bits v m u k : Nat}
theorem within_law (hm : m < 2 ^ bits) (hv : v &&& m = v) (hk : k < 2 ^ bits) (hu : u &&& k = u) :
    ((Builtin.bitAnd (m : Int) (k : Int) == (k : Int) && Builtin.bitAnd (v : Int) (k : Int) == (u : Int)) != decide (both v m u k bits = nums v m bits)) = false := by
  rw [and_cast, and_cast]
  have e : decide (both v m u k bits = nums v m bits) = ((((m &&& k : Nat) : Int) == (k : Int)) && (((v &&& k : Nat) : Int) == (u : Int))) := by
    rw [Bool.eq_iff_iff]
    simp only [decide_eq_true_eq, Bool.and_eq_true, beq_iff_eq, Int.natCast_inj]
    rw [both_self, within_iff hm hv hk hu]
  rw [e, bne_self_eq_false]
theorem meet_law (h5 : bits ≤ 5) (hm : m < 2 ^ bits) (hv : v &&& m = v) (hk : k < 2 ^ bits) (hu : u &&& k = u) :
    ((Builtin.bitAnd (Builtin.bitAnd (Builtin.bitXor (v : Int) (u : Int)) (m : Int)) (k : Int) == 0) == !decide (both v m u k bits = [])) = true := by
  have h32 : 2 ^ bits ≤ 2 ^ 5 := Nat.pow_le_pow_right (by decide) h5
  have hvb : v < 2 ^ bits := Nat.lt_of_le_of_lt (hv ▸ Nat.and_le_right) hm
  have hub : u < 2 ^ bits := Nat.lt_of_le_of_lt (hu ▸ Nat.and_le_right) hk
  have hx : Builtin.bitXor (v : Int) (u : Int) = ((v ^^^ u : Nat) : Int) := xor_all v (by omega) u (by omega)
  rw [hx, and_cast, and_cast]
  have e : (!decide (both v m u k bits = [])) = ((((v ^^^ u) &&& m &&& k : Nat) : Int) == 0) := by
    rw [Bool.eq_iff_iff]
    simp only [Bool.not_eq_true', decide_eq_false_iff_not, beq_iff_eq]
    rw [both_nil, Classical.not_not, ← meet_iff hm hv hk hu]
    omega
  rw [e, beq_self_eq_true]
end
end Mine
namespace Mine
/-- the refs vs stand for the rows, their tuples lie in ts -/
inductive RowsIn (ts : List (Addr × Obj)) : List Value → List (Nat × Nat) → Prop
  | nil : RowsIn ts [] []
  | cons {t : Addr} {v m : Nat} {tv tm : Tok} {n : Nat} {vs : List Value} {rs : List (Nat × Nat)} : (t, tupOf #[.int ((v : Nat) : Int) tv, .int ((m : Nat) : Int) tm] n) ∈ ts → RowsIn ts vs rs → RowsIn ts (.ref t :: vs) ((v, m) :: rs)
theorem RowsIn.mono {ts ts' : List (Addr × Obj)} (h : ∀ p ∈ ts, p ∈ ts') {vs : List Value} {rs : List (Nat × Nat)} (x : RowsIn ts vs rs) : RowsIn ts' vs rs := by
  induction x with
  | nil => exact .nil
  | cons hm _ ih => exact .cons (h _ hm) ih
theorem RowsIn.snoc {ts : List (Addr × Obj)} {t : Addr} {v m : Nat} {tv tm : Tok} {n : Nat} {vs : List Value} {rs : List (Nat × Nat)} (x : RowsIn ts vs rs) (hm : (t, tupOf #[.int ((v : Nat) : Int) tv, .int ((m : Nat) : Int) tm] n) ∈ ts) : RowsIn ts (vs ++ [.ref t]) (rs ++ [(v, m)]) := by
  induction x with
  | nil => exact .cons hm .nil
  | cons hq _ ih => exact .cons hq ih
theorem RowsIn.length {ts : List (Addr × Obj)} {vs : List Value} {rs : List (Nat × Nat)} (x : RowsIn ts vs rs) : vs.length = rs.length := by
  induction x with
  | nil => rfl
  | cons _ _ ih => simp [ih]
theorem RowsIn.at {ts : List (Addr × Obj)} {vs : List Value} {rs : List (Nat × Nat)} (x : RowsIn ts vs rs) : ∀ (i : Nat) (v : Value), vs[i]? = some v → ∃ (t : Addr) (a m : Nat) (tv tm : Tok) (n : Nat), v = Value.ref t ∧ rs[i]? = some (a, m) ∧ (t, tupOf #[.int ((a : Nat) : Int) tv, .int ((m : Nat) : Int) tm] n) ∈ ts := by
  induction x with
  | nil => intro i v h; simp at h
  | cons hm _ ih =>
    intro i v h
    cases i with
    | zero => simp at h; exact ⟨_, _, _, _, _, _, h.symm, rfl, hm⟩
    | succ i => simpa using ih i v (by simpa using h)
def good (bits : Nat) (r : Nat × Nat) : Prop := r.2 < 2 ^ bits ∧ r.1 &&& r.2 = r.1
def told (bits : Nat) (rs : List (Nat × Nat)) : List Int := rs.flatMap fun r => nums r.1 r.2 bits
theorem told_snoc (bits : Nat) (rs : List (Nat × Nat)) (v m : Nat) : told bits (rs ++ [(v, m)]) = told bits rs ++ nums v m bits := by simp [told]
structure RS where
  lo : Nat
  t : Tok
  D : Addr
  vs : List Value
  k : Nat
  ts : List (Addr × Obj)
  rs : List (Nat × Nat)
structure SS where
  sz : Int
  t : Tok
  n : Nat
theorem news_swap {h₀ h : Heap} {L : Addr} {a b : Addr × Obj} {r : List (Addr × Obj)} (N : News h₀ L h (a :: b :: r)) : News h₀ L h (b :: a :: r) := fun p hp => by
  rcases List.mem_cons.mp hp with rfl | hp
  · exact N _ (List.mem_cons_of_mem _ List.mem_cons_self)
  · rcases List.mem_cons.mp hp with rfl | hp
    · exact N _ List.mem_cons_self
    · exact N _ (List.mem_cons_of_mem _ (List.mem_cons_of_mem _ hp))
theorem told_step {bits lo lo' sN : Nat} {rs : List (Nat × Nat)} (h1 : lo ≤ lo') (h4 : told bits rs = consec lo (lo' - lo)) (hn : nums lo' (2 ^ bits - sN) bits = consec lo' sN) :
    told bits (rs ++ [(lo', 2 ^ bits - sN)]) = consec lo (lo' + sN - lo) := by
  rw [told_snoc, h4, hn]
  have := consec_append lo (lo' - lo) sN
  rw [show lo + (lo' - lo) = lo' by omega] at this
  rw [this]
  congr 1
  omega
theorem good_step {bits lo' sN : Nat} {rs : List (Nat × Nat)} (h3 : ∀ r ∈ rs, good bits r) (hs : 1 ≤ sN) (hl : lo' &&& (2 ^ bits - sN) = lo') : ∀ r ∈ rs ++ [(lo', 2 ^ bits - sN)], good bits r := fun r hr => by
  rcases List.mem_append.mp hr with hr | hr
  · exact h3 r hr
  · rw [List.mem_singleton.mp hr]
    exact ⟨by have := Nat.two_pow_pos bits; dsimp only; omega, hl⟩
theorem whole_is {bits sN : Nat} (h : sN ≤ 2 ^ bits) : (1 * 2 ^ (bits : Int).toNat - 1 - ((sN : Int) - 1) : Int) = ((2 ^ bits - sN : Nat) : Int) := by
  have e : (2 : Int) ^ (bits : Int).toNat = ((2 ^ bits : Nat) : Int) := by simp
  rw [e]
  omega
theorem off_cons {D T : Addr} {o : Obj} {ts : List (Addr × Obj)} (h : @Ne Nat T D) (hD : ∀ p ∈ ts, p.1 ≠ D) : ∀ p ∈ (T, o) :: ts, p.1 ≠ D := fun p hp => by
  rcases List.mem_cons.mp hp with rfl | hp
  · exact h
  · exact hD p hp
section
variable {prog : Program} {w : World} {A : Around} {E : Value → Shared → Prop} {s : Shared} {h₀ : Heap} {L : Addr} {m : Str → Option Value} {news : List (Addr × Obj)}
theorem tup_tail {value slice : Expr} {t : Addr} {a b c : Value} {n : Nat} {u : Tok} {Q : Value → Shared → Prop} (F : Fr h₀ L s.heap m) (N : News h₀ L s.heap news) (hm : (t, tupOf #[a, b, c] n) ∈ news)
    (h : ∀ D h', Fr h₀ L h' m → News h₀ L h' ((D, tupOf #[b, c] 0) :: news) → (∀ p ∈ news, p.1 < D) → Q (.ref D) { s with heap := h' })
    (hs : subscripted slice false (.ref t) (.ref s.heap.objs.size) = operate [.ref s.heap.objs.size, .ref t] (getItem (.ref t) (.ref s.heap.objs.size))) (hg : ∀ r, letTemporaryGo value (.ref t) r = pure ()) :
    wpAny (model prog w) A (subscriptTail value slice (.ref t) (.ref s.heap.objs.size)) Q E { s with heap := s.heap.push { cls := .type "slice", data := .fields #[.int 1 u, .none, .none] } } :=
  slice_tuple_from (a := 1) F N (News.isTup N hm) (by decide) (show (1 : Nat) ≤ 3 by decide) (fun h' F' N' => h _ h' F' N' fun p hp => Nat.lt_succ_of_lt (Heap.lt_size (N p hp).1)) hs hg (show (3 : Nat) ≤ sizeLine by rw [sizeLine_eq]; decide)
end
theorem getD_mem {l : List Int} {i : Nat} (h : i < l.length) : l.getD i 0 ∈ l := by
  rw [List.getD_eq_getElem?_getD, List.getElem?_eq_getElem h]
  exact List.getElem_mem h
theorem fresh_off {h₀ h : Heap} {L W : Addr} {o : Obj} {news led' : List (Addr × Obj)} {led : List Addr} (N : News h₀ L h news) (hw : (W, o) ∈ news) (hf : ∀ p ∈ led', p.1 ∉ led → h.get? p.1 = none) (hl : ∀ p ∈ led', p.1 ∉ led) : ∀ p ∈ led', p.1 ≠ W := fun p hp q => by
  have := hf p hp (hl p hp)
  rw [q, (N _ hw).1] at this
  cases this
theorem ends_eq {N1 : List Int} {v mm bits : Nat} (hm : mm < 2 ^ bits) (e1 : 1 ≤ N1.length) (e3 : N1.getD 0 0 = Int.ofNat v) (e4 : N1.getD (N1.length - 1) 0 = Int.ofNat (v + (2 ^ bits - 1 - mm))) :
    (((v : Int) == N1.getD (Int.toNat 0) 0) && ((v : Int) + (1 * 2 ^ (bits : Int).toNat - 1 - (mm : Int)) == N1.getD (-1 + (N1.length : Int)).toNat 0)) = true := by
  have e5 : (2 : Int) ^ (bits : Int).toNat = ((2 ^ bits : Nat) : Int) := by simp
  rw [show (Int.toNat 0) = 0 from rfl, show (-1 + (N1.length : Int)).toNat = N1.length - 1 by omega, e3, e4, e5]
  clear e5
  generalize 2 ^ bits = P at *
  simp only [Bool.and_eq_true, beq_iff_eq, Int.ofNat_eq_natCast]
  constructor
  · trivial
  · omega
theorem lt_nat {x bits : Nat} (h : (x : Int) < 2 ^ (bits : Int).toNat) : x < 2 ^ bits := by
  have e : (2 : Int) ^ (bits : Int).toNat = ((2 ^ bits : Nat) : Int) := by simp
  rw [e] at h
  exact Int.ofNat_lt.mp h
theorem one_of2 {y x top : Int} (h : y ∈ [0, x]) (hx : 0 ≤ x) (hx2 : x < top) : 0 ≤ y ∧ y < top := by
  simp only [List.mem_cons, List.not_mem_nil, or_false] at h
  omega
theorem one_of3 {y lo x top : Int} (h : y ∈ [lo, top - 1, lo + x]) (h0 : 0 ≤ lo) (h1 : lo < top) (hx : 0 ≤ x) (hx2 : x < top - lo) : lo ≤ y ∧ y < top := by
  simp only [List.mem_cons, List.not_mem_nil, or_false] at h
  omega
theorem ints_consec : ∀ (l : List Value) (lo : Nat), (∀ (j : Nat) (v : Value), l[j]? = some v → ∃ t, v = Value.int ((lo : Int) + (j : Int) * 1) t) → IntsAre l (consec lo l.length)
  | [], _, _ => .nil
  | a :: r, lo, h => by
    obtain ⟨t, e⟩ := h 0 a rfl
    have e' : a = Value.int (lo : Int) t := by rw [e]; congr 1 <;> omega
    rw [e']
    refine .cons _ _ (ints_consec r (lo + 1) fun j v hv => ?_)
    obtain ⟨t', e2⟩ := h (j + 1) v (by simpa using hv)
    exact ⟨t', by rw [e2]; congr 1 <;> omega⟩
theorem nums_len (v m bits : Nat) : (nums v m bits).length ≤ 2 ^ bits := by
  unfold nums
  rw [List.length_map]
  exact Nat.le_trans (List.length_filter_le _ _) (by simp)
theorem told_len {bits : Nat} (h5 : bits ≤ 5) (rs : List (Nat × Nat)) : (told bits rs).length ≤ rs.length * 32 :=
  flat_len _ 32 (fun r => Nat.le_trans (nums_len _ _ _) (Nat.le_trans (Nat.pow_le_pow_right (by decide) h5) (by decide))) rs
section
variable {prog : Program} {w : World} {A : Around} {E : Value → Shared → Prop} {s : Shared} {h₀ : Heap} {L : Addr} {m : Str → Option Value} {news : List (Addr × Obj)}
theorem list_rangeK {r : Addr} {lo : Nat} {b : Int} {t u v : Tok} {n : Nat} {Q : Value → Shared → Prop} (hh : A.handled = none) (F : Fr h₀ L s.heap m) (N : News h₀ L s.heap news) (hr : IsRange s.heap r (lo : Int) b 1 t u v) (hsmall : Builtin.Range.small (lo : Int) b 1 = true)
    (hn : Builtin.Range.rangeSize (lo : Int) b 1 = (n : Int)) (hlen : n ≤ 2 ^ 24)
    (h : ∀ D h' tk ys k, Fr h₀ L h' m → News h₀ L h' ((D, listOf ys.toArray k) :: news) → (∀ p ∈ news, p.1 < D) → IntsAre ys (consec lo n) → Q (.ref D) { s with heap := h', toks := tk }) :
    wpAny (model prog w) A (call (.type "list") [.ref r]) Q E s := by
  refine call_list_range hh hr hsmall hn hlen fun h' tk acc' c' hk hS' hacc => ?_
  have hi : IntsAre acc'.toList (consec lo n) := by
    have e : acc'.toList.length = n := by rw [Array.length_toList]; exact hacc.1
    rw [← e]
    exact ints_consec _ _ fun j v hv => hacc.2 j v (by simpa using hv)
  have hN : News h₀ L h' ((s.heap.objs.size, listOf acc'.toList.toArray c') :: news) := fun p hp => by
    rcases List.mem_cons.mp hp with rfl | hp
    · refine ⟨by simpa using hS', ?_, ?_⟩
      · exact Ne.symm (Nat.ne_of_lt F.ns.lt)
      · cases e : h₀.get? s.heap.objs.size with
        | none => rfl
        | some o => exact absurd (Heap.lt_size (F.keep _ _ e)) (Nat.lt_irrefl _)
    · exact ⟨hk _ _ (N p hp).1, (N p hp).2⟩
  exact h _ h' tk _ c' (F.keeps hk) hN (fun p hp => Heap.lt_size (N p hp).1) hi
theorem add_listsK {l b : Addr} {vs ws : List Value} {k k' : Nat} {ns ms : List Int} {Q : Value → Shared → Prop} (F : Fr h₀ L s.heap m) (N : News h₀ L s.heap news) (hl : (l, listOf vs.toArray k) ∈ news) (hb : (b, listOf ws.toArray k') ∈ news) (hi : IntsAre vs ns) (hj : IntsAre ws ms)
    (hsz : ns.length + ms.length ≤ sizeLine)
    (h : ∀ D h', Fr h₀ L h' m → News h₀ L h' ((D, listOf (vs ++ ws).toArray 0) :: news) → (∀ p ∈ news, p.1 < D) → IntsAre (vs ++ ws) (ns ++ ms) → Q (.ref D) { s with heap := h' }) :
    wpAny (model prog w) A (binaryOp .Add (.ref l) (.ref b)) Q E s :=
  add_lists_ints F N ⟨_, (N _ hl).1, rfl, _, rfl⟩ ⟨_, (N _ hb).1, rfl, _, rfl⟩ hi hj (fun h' F' N' hi' => h _ h' F' N' (fun p hp => Heap.lt_size (N p hp).1) hi') hsz
end
end Mine
namespace Mine
theorem within_ok (w : World) (mean : ExcName → Option Value) (mg mb : Str → Option Value) (p q : Addr) (v₁ m₁ v₂ m₂ : Int) (a₁ b₁ a₂ b₂ : Tok) (n₁ n₂ : Nat) :
  Does w mean mg mb 35 [.ref p, .ref q] 1 [(p, tupOf #[.int v₁ a₁, .int m₁ b₁] n₁), (q, tupOf #[.int v₂ a₂, .int m₂ b₂] n₂)]
    (fun r led' => r = .bool (Builtin.bitAnd m₁ m₂ == m₂ && Builtin.bitAnd v₁ m₂ == v₂) ∧ led' = [(p, tupOf #[.int v₁ a₁, .int m₁ b₁] n₁), (q, tupOf #[.int v₂ a₂, .int m₂ b₂] n₂)]) := by
  unfold Does
  w_top off
  k_fill
  intro dp un gd cn cs fa ccd cl outer A₀ base h₀ L m s Q E B F X N T hk hdp hun hret
  refine wpAny_call ?_
  k_dflt (refine' code_defG ?k1 ?k2 ?k3 ?k4 ?k5 ?kA ?kF ?kK ?k6 ?k7 ?k8 ?k9 ?kB ?_ ?c2 ?c3 ?c4 ?c5; (case kA => exact rfl); (case kF => exact rfl); (case kK => assumption); (case k1 => k_asm); (case k2 => k_asm); (case k3 => k_asm); (case k4 => k_asm); (case k5 => k_asm); (case k6 => k_is); (case k7 => k_is); (case k8 => ktr_room); (case k9 => exact BindsTo.of_eq rfl); (case c5 => decide); (case kB => exact locs rfl); (case c2 => exact rfl); (case c3 => exact rfl); (case c4 => exact rfl); k_whole)
  intro g' L' h' FG' F' N' B' X' T' kG'
  (try dsimp only)
  (try k_fold)
  k_steps
  · have h1 : Builtin.bitAnd m₁ m₂ = m₂ := by assumption
    exact hret _ _ _ _ (by assumption) (news_sub (by assumption) (by kcj_all)) (keep_of (by assumption) (by assumption)) (fresh_of (by assumption) (news_sub (by assumption) (by kcj_all))) ⟨by rw [h1, beq_self_eq_true, Bool.true_and], rfl⟩
  · have h1 : Builtin.bitAnd m₁ m₂ ≠ m₂ := by assumption
    have h2 : (Builtin.bitAnd m₁ m₂ == m₂) = false := by simpa using h1
    exact hret _ _ _ _ (by assumption) (news_sub (by assumption) (by kcj_all)) (keep_of (by assumption) (by assumption)) (fresh_of (by assumption) (news_sub (by assumption) (by kcj_all))) ⟨by rw [h2, Bool.false_and], rfl⟩
theorem meet_ok (w : World) (mean : ExcName → Option Value) (mg mb : Str → Option Value) (p q : Addr) (v₁ m₁ v₂ m₂ : Int) (a₁ b₁ a₂ b₂ : Tok) (n₁ n₂ : Nat) :
  Does w mean mg mb 42 [.ref p, .ref q] 1 [(p, tupOf #[.int v₁ a₁, .int m₁ b₁] n₁), (q, tupOf #[.int v₂ a₂, .int m₂ b₂] n₂)]
    (fun r led' => r = .bool (Builtin.bitAnd (Builtin.bitAnd (Builtin.bitXor v₁ v₂) m₁) m₂ == 0) ∧ led' = [(p, tupOf #[.int v₁ a₁, .int m₁ b₁] n₁), (q, tupOf #[.int v₂ a₂, .int m₂ b₂] n₂)]) := by
  unfold Does
  w_top off
  k_fill
  intro dp un gd cn cs fa ccd cl outer A₀ base h₀ L m s Q E B F X N T hk hdp hun hret
  refine wpAny_call ?_
  k_dflt (refine' code_defG ?k1 ?k2 ?k3 ?k4 ?k5 ?kA ?kF ?kK ?k6 ?k7 ?k8 ?k9 ?kB ?_ ?c2 ?c3 ?c4 ?c5; (case kA => exact rfl); (case kF => exact rfl); (case kK => assumption); (case k1 => k_asm); (case k2 => k_asm); (case k3 => k_asm); (case k4 => k_asm); (case k5 => k_asm); (case k6 => k_is); (case k7 => k_is); (case k8 => ktr_room); (case k9 => exact BindsTo.of_eq rfl); (case c5 => decide); (case kB => exact locs rfl); (case c2 => exact rfl); (case c3 => exact rfl); (case c4 => exact rfl); k_whole)
  intro g' L' h' FG' F' N' B' X' T' kG'
  (try dsimp only)
  (try k_fold)
  k_steps
  exact hret _ _ _ _ (by assumption) (news_sub (by assumption) (by kcj_all)) (keep_of (by assumption) (by assumption)) (fresh_of (by assumption) (news_sub (by assumption) (by kcj_all))) ⟨rfl, rfl⟩
end Mine
namespace Mine
local macro_rules | `(tactic| walk_at "binaryOp Pow int int") => `(tactic| (k_dflt (refine pw_2 ?k1 ?k2 ?_); (case k1 => with_reducible assumption); (case k2 => with_reducible assumption)))
local macro_rules | `(tactic| walk_at "binaryOp FloorDiv int int") => `(tactic| (k_dflt (refine fd_pow ?k2 ?_); (case k2 => with_reducible assumption)))
local macro_rules | `(tactic| walk_at "binaryOp Mod int int") => `(tactic| (k_dflt (refine md_2 ?_)))
local macro_rules | `(tactic| walk_at "compareOp Eq ref ref") => `(tactic| (k_here; k_dflt (refine' ke_eq_ints ?ka ?kb ?kc ?kd ?ku ?_); (case ka => exact ⟨_, News.get (by k_asm) (by k_mem), rfl, _, rfl⟩); (case kb => exact ⟨_, News.get (by k_asm) (by k_mem), rfl, _, rfl⟩); (case kc => first | assumption | exact IntsAre.nil); (case kd => first | assumption | exact IntsAre.nil); (case ku => ktr_units)))
local macro_rules | `(tactic| walk_at "compareOp NotEq ref ref") => `(tactic| (k_here; k_dflt (refine' ke_ne_ints ?ka ?kb ?kc ?kd ?ku ?_); (case ka => exact ⟨_, News.get (by k_asm) (by k_mem), rfl, _, rfl⟩); (case kb => exact ⟨_, News.get (by k_asm) (by k_mem), rfl, _, rfl⟩); (case kc => first | assumption | exact IntsAre.nil); (case kd => first | assumption | exact IntsAre.nil); (case ku => ktr_units)))
local macro_rules | `(tactic| walk_at "eval Call") => `(tactic| (k_here; (with_reducible show wpAny _ _ (eval (Expr.Call (Expr.Name _ _) _ _ _) _) _ _ _); k_dflt (refine Call_ ?_)))
local macro_rules | `(tactic| walk_at "call ref") => `(tactic| (k_here; refine Held.out ?_))
local macro_rules | `(tactic| walk_at "eval ListComp") => `(tactic| (k_here; refine Held.out ?_))
local macro_rules | `(tactic| walk_at "CompEnd") => `(tactic| (refine Held.out ?_))
local macro_rules | `(tactic| walk_at "CompSrcT") => `(tactic| (k_here; refine Held.out ?_))
local macro_rules | `(tactic| walk_at "exec Assign cons ListComp") => `(tactic| (k_here; refine Held.out ?_))
local macro_rules | `(tactic| walk_at "pyIter ref") => `(tactic| (k_here; refine Held.out ?_))
theorem mask_ok (w : World) (mean : ExcName → Option Value) (mg mb : Str → Option Value) (src : Addr) (a b : Int) (ta tb : Tok) (n : Nat) (bits : Nat) (tt : Tok) (hb3 : 3 ≤ bits) (hb5 : bits ≤ 5) (ha : 0 ≤ a) (hb : 0 ≤ b) (hb2 : b < 2147483647) :
  Does w mean mg mb 80 [.ref src, .int (bits : Int) tt] 2 [(src, listOf #[.int a ta, .int b tb] n)]
    (fun r led' => ∃ D v m tv tm k a' b' ta' tb', r = .ref D ∧ (@Ne Nat D src) ∧ m < 2 ^ bits ∧ v &&& m = v ∧ 0 ≤ a' ∧ 0 ≤ b' ∧ b' < 2147483647 ∧ led' = [(D, tupOf #[.int ((v : Nat) : Int) tv, .int ((m : Nat) : Int) tm] k), (src, listOf #[.int a' ta', .int b' tb'] n)]) := by
  unfold Does
  w_top off
  k_fill
  intro dp un gd cn cs fa ccd cl outer A₀ base h₀ L m s Q E B F X N T hk hdp hun hret
  refine wpAny_call ?_
  k_dflt (refine' defCG ?k1 ?k2 ?k3 ?k4 ?k5 ?kA ?kF ?kK ?k6 ?k7 ?k8 ?k9 ?kB ?kD ?_ ?c2 ?c3 ?c4; (case kA => exact rfl); (case kF => exact rfl); (case kK => assumption); (case k1 => k_asm); (case k2 => k_asm); (case k3 => k_asm); (case k4 => k_asm); (case k5 => k_asm); (case k6 => k_is); (case k7 => k_is); (case k8 => ktr_room); (case k9 => exact BindsTo.of_eq rfl); (case kB => exact rfl); (case kD => decide +kernel); (case c2 => exact rfl); (case c3 => exact rfl); (case c4 => exact rfl); k_whole)
  intro g' L' h' tk' cells' FG' F' N' Y' B' X' T' l1 kG'
  (try k_lt l1)
  obtain ⟨oc1, oc2, hE, d1, d2⟩ := CellsAre.two Y'
  subst hE
  clear Y'
  (try simp only [List.cons_append, List.nil_append] at N')
  (try dsimp only)
  (try k_fold)
  have hp1 : (0 : Int) < 2 ^ (bits : Int).toNat := by
    rcases (by omega : bits = 3 ∨ bits = 4 ∨ bits = 5) with rfl | rfl | rfl <;> decide
  have hp2 : (2 : Int) ^ (bits : Int).toNat < 1000 := by
    rcases (by omega : bits = 3 ∨ bits = 4 ∨ bits = 5) with rfl | rfl | rfl <;> decide
  have hb20 : (bits : Int) ≤ 20 := by omega
  have hb0 : (0 : Int) ≤ (bits : Int) := by omega
  k_steps
  (try unfold Held)
  (with_reducible rename News _ _ _ _ => kN0)
  k_dflt (refine' Does.use (take_ok w mean mg mb src a b ta tb n _ _ ha hb hb2 hp1 hp2) ?uB ?uF ?uX ?uN ?uT ?uk ?ud ?uu ?_)
  case uB => k_asm
  case uF => k_asm
  case uX => k_asm
  case uN => (refine' news_sub kN0 ?uNS; (case uNS => kcj_all))
  case uT => k_asm
  case uk => first | exact rfl | assumption
  case ud => ktr_room
  case uu => ktr_units
  intro r9 led9 h9 tk9 F9 N9 keep9 new9 out9
  have lt9 := news_lt kN0
  obtain ⟨x1, t1, a1, b1, ta1, tb1, rfl, hx0, hx1, ha1, hb1, hb12, rfl⟩ := out9
  have M9 := news_joinL [2] kN0 N9 keep9 (by (dsimp only [drops, List.eraseIdx, List.map]); (simp only [AllOff, OffL, and_true]); (try omega))
  (try (dsimp only [drops, List.eraseIdx, List.cons_append, List.nil_append] at M9))
  (try (simp only [AllLt, and_true] at lt9))
  (try (dsimp only at lt9))
  clear keep9 new9 kN0; (try clear N9)
  k_steps
  (try unfold Held)
  (with_reducible rename News _ _ _ _ => kN0)
  k_dflt (refine' Does.use (take_ok w mean mg mb src a1 b1 ta1 tb1 n _ _ ha1 hb1 hb12 hp1 hp2) ?uB ?uF ?uX ?uN ?uT ?uk ?ud ?uu ?_)
  case uB => k_asm
  case uF => k_asm
  case uX => k_asm
  case uN => (refine' news_sub kN0 ?uNS; (case uNS => kcj_all))
  case uT => k_asm
  case uk => first | exact rfl | assumption
  case ud => ktr_room
  case uu => ktr_units
  intro r9 led9 h9 tk9 F9 N9 keep9 new9 out9
  have lt9 := news_lt kN0
  obtain ⟨x2, t2, a2, b2, ta2, tb2, rfl, hy0, hy1, ha2, hb2, hb22, rfl⟩ := out9
  have M9 := news_joinL [0] kN0 N9 keep9 (by (dsimp only [drops, List.eraseIdx, List.map]); (simp only [AllOff, OffL, and_true]); (try omega))
  (try (dsimp only [drops, List.eraseIdx, List.cons_append, List.nil_append] at M9))
  (try (simp only [AllLt, and_true] at lt9))
  (try (dsimp only at lt9))
  clear keep9 new9 kN0; (try clear N9)
  k_steps
  unfold Held
  k_dflt (refine LCt.ListComp_T (F₀ := by k_asm) (by with_unfolding_all rfl) (by decide) (by rfl) (by decide) (by rfl) ?_)
  k_steps
  unfold Held
  k_dflt (refine LCt.CompSrcT.range (by rfl) (by k_asm) (by k_asm) (by assumption) (by exact small_one (by omega) (by omega) (by omega) (by omega)) (by exact rangeSize_nat _ _) (by rw [PySem.sizeLine_eq]; omega) ?_)
  intro g9
  refine' kci_range (mfold x1 x2) (fun k' t' I' oI' C' oC' D' m' ys' l' h' tk' E' hlo' hhi' hI' hC' hx' F' N' off' ne' hMark' => ?_) ?_ ?_
  all_goals (try (simp only [LCg.Off3, and_true] at off'))
  · have hk20 : k' ≤ 20 := by omega
    k_steps
    all_goals unfold Held
    · exact LCg.CompEnd.intro (by assumption) (by assumption) _ (fun _ hp => hp) (by simp only [LCg.Off3, and_true]; exact off') trivial ⟨rfl, _, _, rfl, if_pos ⟨by assumption, by assumption⟩⟩
    · exact LCg.CompEnd.intro (by assumption) (by assumption) _ (fun _ hp => hp) (by simp only [LCg.Off3, and_true]; exact off') trivial ⟨rfl, if_neg (fun h => absurd h.2 (by assumption))⟩
    · exact LCg.CompEnd.intro (by assumption) (by assumption) _ (fun _ hp => hp) (by simp only [LCg.Off3, and_true]; exact off') trivial ⟨rfl, if_neg (fun h => absurd h.1 (by assumption))⟩
  · unfold KPfDone LCg.FinE
    intro ys hys hlen D8 h8 tk8 F8 N8 off8
    have hm := msum_is hb3 hb5 hx0 hx1 hy0 hy1
    have h31 : x1.toNat < 2 ^ bits := by
      have e : ((2 : Int) ^ (bits : Int).toNat) = ((2 ^ bits : Nat) : Int) := by simp
      rw [e] at hx1
      omega
    have hx9 : x1 = Int.ofNat x1.toNat := (Int.toNat_of_nonneg hx0).symm
    generalize List.foldl (mfold x1 x2) [] (rangeKs 0 ((bits : Int) - 0).toNat) = zs at hys hm
    k_steps
    (with_reducible rename News g' L' _ _ => kN1)
    (with_reducible rename News h₀ L _ _ => kN2)
    rw [hm] at kN1 kN2
    rw [hx9] at kN1 kN2
    exact hret _ _ _ _ (by assumption) (news_sub kN2 (by kcj_all)) (keep_of (by assumption) (by assumption)) (fresh_of (by assumption) (news_sub kN1 (by kcj_all))) ⟨_, x2.toNat &&& x1.toNat, x1.toNat, _, _, _, _, _, _, _, rfl, by omega, h31, by rw [Nat.and_assoc, Nat.and_self], ha2, hb2, hb22, rfl⟩
  · exact mfold_grows x1 x2
end Mine
namespace Mine
local macro_rules | `(tactic| walk_at "pad 1") => `(tactic| skip)
local macro_rules | `(tactic| walk_at "pad 2") => `(tactic| skip)
local macro_rules | `(tactic| walk_at "binaryOp Pow int int") => `(tactic| (k_dflt (refine pw_2 ?k1 ?k2 ?_); (case k1 => with_reducible assumption); (case k2 => with_reducible assumption)))
local macro_rules | `(tactic| walk_at "binaryOp FloorDiv int int") => `(tactic| (k_dflt (refine fd_pow ?k2 ?_); (case k2 => with_reducible assumption)))
local macro_rules | `(tactic| walk_at "binaryOp Mod int int") => `(tactic| (k_dflt (refine md_2 ?_)))
local macro_rules | `(tactic| walk_at "compareOp Eq ref ref") => `(tactic| (k_here; k_dflt (refine' ke_eq_ints ?ka ?kb ?kc ?kd ?ku ?_); (case ka => exact ⟨_, News.get (by k_asm) (by k_mem), rfl, _, rfl⟩); (case kb => exact ⟨_, News.get (by k_asm) (by k_mem), rfl, _, rfl⟩); (case kc => first | assumption | exact IntsAre.nil); (case kd => first | assumption | exact IntsAre.nil); (case ku => ktr_units)))
local macro_rules | `(tactic| walk_at "compareOp NotEq ref ref") => `(tactic| (k_here; k_dflt (refine' ke_ne_ints ?ka ?kb ?kc ?kd ?ku ?_); (case ka => exact ⟨_, News.get (by k_asm) (by k_mem), rfl, _, rfl⟩); (case kb => exact ⟨_, News.get (by k_asm) (by k_mem), rfl, _, rfl⟩); (case kc => first | assumption | exact IntsAre.nil); (case kd => first | assumption | exact IntsAre.nil); (case ku => ktr_units)))
local macro_rules | `(tactic| walk_at "eval Call") => `(tactic| (k_here; (with_reducible show wpAny _ _ (eval (Expr.Call (Expr.Name _ _) _ _ _) _) _ _ _); k_dflt (refine Call_ ?_)))
local macro_rules | `(tactic| walk_at "call ref") => `(tactic| (k_here; refine Held.out ?_))
local macro_rules | `(tactic| walk_at "eval ListComp") => `(tactic| (k_here; refine Held.out ?_))
local macro_rules | `(tactic| walk_at "CompEnd") => `(tactic| (refine Held.out ?_))
local macro_rules | `(tactic| walk_at "CompSrcT") => `(tactic| (k_here; refine Held.out ?_))
local macro_rules | `(tactic| walk_at "exec Assign cons ListComp") => `(tactic| (k_here; refine Held.out ?_))
local macro_rules | `(tactic| walk_at "pyIter ref") => `(tactic| (k_here; refine Held.out ?_))
theorem numbers_ok (w : World) (mean : ExcName → Option Value) (mg mb : Str → Option Value) (p : Addr) (v m₁ : Nat) (a₁ b₁ : Tok) (n₁ : Nat) (bits : Nat) (tt : Tok) (hb3 : 3 ≤ bits) (hb5 : bits ≤ 5) :
  Does w mean mg mb 75 [.ref p, .int (bits : Int) tt] 1 [(p, tupOf #[.int (v : Int) a₁, .int (m₁ : Int) b₁] n₁)]
    (fun r led' => ∃ D ys k, r = .ref D ∧ (@Ne Nat D p) ∧ IntsAre ys (numsAt v m₁ bits bits) ∧ led' = [(D, listOf ys.toArray k), (p, tupOf #[.int (v : Int) a₁, .int (m₁ : Int) b₁] n₁)]) := by
  unfold Does
  w_top off
  k_fill
  intro dp un gd cn cs fa ccd cl outer A₀ base h₀ L m s Q E B F X N T hk hdp hun hret
  refine wpAny_call ?_
  k_dflt (refine' defCG ?k1 ?k2 ?k3 ?k4 ?k5 ?kA ?kF ?kK ?k6 ?k7 ?k8 ?k9 ?kB ?kD ?_ ?c2 ?c3 ?c4; (case kA => exact rfl); (case kF => exact rfl); (case kK => assumption); (case k1 => k_asm); (case k2 => k_asm); (case k3 => k_asm); (case k4 => k_asm); (case k5 => k_asm); (case k6 => k_is); (case k7 => k_is); (case k8 => ktr_room); (case k9 => exact BindsTo.of_eq rfl); (case kB => exact rfl); (case kD => decide +kernel); (case c2 => exact rfl); (case c3 => exact rfl); (case c4 => exact rfl); k_whole)
  intro g' L' h' tk' cells' FG' F' N' Y' B' X' T' l1 kG'
  (try k_lt l1)
  obtain ⟨oc1, hE, d1⟩ := CellsAre.one Y'
  subst hE
  clear Y'
  (try simp only [List.cons_append, List.nil_append] at N')
  (try dsimp only)
  (try k_fold)
  k_steps
  unfold Held
  k_dflt (refine' iter_rangeT [Str.ofString "unit"] (fun i T nw => ∃ D vs k oc v₀, T = [(Str.ofString "found", Value.ref D)] ∧ IntsAre vs (numsAt v m₁ bits i) ∧ (@Ne Nat D (L' + 1)) ∧ (@Ne Nat D p) ∧ oc.data = .cell v₀ ∧ nw = [(D, listOf vs.toArray k), (L' + 1, oc), (p, tupOf #[.int (v : Int) a₁, .int (m₁ : Int) b₁] n₁)]) ?ij rfl (by assumption) (by exact small_one (by omega) (by omega) (by omega) (by omega)) (by exact rangeSize_nat _ _) (by assumption) (by assumption) ?it ?id)
  case ij => exact ⟨[(Str.ofString "found", _)], ⟨_, [_], _, _, _, rfl, .cons _ _ .nil, by omega, by omega, d1, rfl⟩, rfl, trivial⟩
  case it =>
    intro i t T u nw h9 tk9 I oI hi ⟨D, vs, k, oc, v₀, hT, hvs, hD1, hD2, hoc, hnw⟩ hne F9 N9
    subst hT hnw
    have q1 := hne _ List.mem_cons_self
    have q2 := hne _ (List.mem_cons_of_mem _ List.mem_cons_self)
    have q3 := hne _ (List.mem_cons_of_mem _ (List.mem_cons_of_mem _ List.mem_cons_self))
    dsimp only at q1 q2 q3
    have q1 := neN q1
    have q2 := neN q2
    have q3 := neN q3
    simp only [List.cons_append, List.nil_append] at N9
    have hk0 : (0 : Int) ≤ (bits : Int) - 1 - (0 + (i : Int)) := by omega
    have hk20 : (bits : Int) - 1 - (0 + (i : Int)) ≤ 20 := by omega
    k_steps
    all_goals unfold Held
    all_goals have hvl := vs_len hvs (by omega)
    all_goals
      k_dflt (refine' Assign_comp2 (l := D) (c := L' + 1) (vs := vs) (ns := numsAt v m₁ bits i) (ns2 := bitsOf v m₁ bits i) (fun a b => 2 * a + b) rfl ?cF ?cN ?cl ?cl2 ?cc ?ci ?ci2 ?csz ?c1 ?c2 ?ce ?ch ?csw ?cclos ?ccell ?ckind ?cnames ?cx ?cy ?cxy ?cz ?cp ?cs ?cs2)
      case cclos => with_unfolding_all rfl
      case cF => k_asm
      case cN => k_asm
      case cl => k_mem
      case cl2 => exact List.Mem.head _
      case cc => k_mem
      case ci => exact hvs
      case ci2 =>
        unfold bitsOf
        first
          | (rw [if_pos (by assumption)]; exact .cons _ _ .nil)
          | (rw [if_neg (by assumption)]; exact .cons _ _ (.cons _ _ .nil))
      case csz => rw [sizeLine_eq]; simp only [List.length_cons, List.length_nil]; omega
      case c1 => intro Q hq; exact nameX_L (by assumption) rfl hq rfl rfl (by decide)
      case c2 => intro C s' Q E' hc hq; exact wpAny_Name (wpAny_loadName_cell rfl rfl rfl ⟨_, hc, by assumption⟩ hq) (by decide)
      case ce => intro C s' m' a ta b tb E' ha hb hn hx hy; exact wpAny_BinOp (wpAny_BinOp (wpAny_Constant_int (wpAny_Name (wpAny_loadName_local rfl rfl hn hx (PyProof.Rows.mul_int (wpAny_Name (wpAny_loadName_local rfl rfl hn hy (PyProof.Rows.add_int ⟨_, _, rfl, rfl⟩)) (by decide)) (PySem.IntMulOk.of_left (PySem.intBits_le_64 (by decide) (by decide))))) (by decide))))
      case csw => with_unfolding_all rfl
      case ccell => decide
      case ckind => rfl
      case cnames => decide
      case cx => rfl
      case cy => rfl
      case cxy => decide
      case cz => rfl
      case cp => rfl
      case cs => intro _; rfl
      case cs2 => intro _ _; rfl
      case ch =>
        intro D8 ys8 h8 tk8 lt8 F8 N8 i8
        have lt8 := allLt_of lt8
        simp only [AllLt, and_true] at lt8
        k_steps
        refine JEnd.intro F8 (news' := [(D8, LCg.lst ys8), (L' + 1, _), (p, _)]) (news_sub N8 (by kcj_all)) (AllNe.mem (by simp only [AllNe, and_true]; omega)) ⟨[(Str.ofString "found", Value.ref D8)], ⟨D8, ys8, _, _, _, rfl, i8, by omega, by omega, by assumption, rfl⟩, ⟨rfl, trivial⟩, ?_⟩
        intro y y1 y2 y3
        have e1 : y ≠ Str.ofString "found" := lookup_none_ne y2 List.mem_cons_self
        have e2 : y ≠ Str.ofString "unit" := contains_ne y3 List.mem_cons_self
        simp only [if_neg e1, if_neg e2, if_neg y1]
        refine (mapT_none y2 y3 ?_).trans ?_
        · rfl
        · simp only [if_neg e1]
  case id =>
    intro T u nw h9 tk9 ⟨D, vs, k, oc, v₀, hT, hvs, hD1, hD2, hoc, hnw⟩ F9 N9
    subst hT hnw
    have hn9 : ((bits : Int) - 0).toNat = bits := by omega
    rw [hn9] at hvs
    k_steps
    exact hret _ _ _ _ (by assumption) (news_sub (by assumption) (by kcj_all)) (keep_of (by assumption) (by assumption)) (fresh_of (by assumption) (news_sub (by assumption) (by kcj_all))) ⟨D, vs, k, rfl, hD2, hvs, rfl⟩
end Mine
namespace Mine
local macro_rules | `(tactic| walk_at "compareOp Eq ref ref") => `(tactic| (k_here; k_dflt (refine' ke_eq_ints ?ka ?kb ?kc ?kd ?ku ?_); (case ka => exact ⟨_, News.get (by k_asm) (by k_mem), rfl, _, rfl⟩); (case kb => exact ⟨_, News.get (by k_asm) (by k_mem), rfl, _, rfl⟩); (case kc => first | assumption | exact IntsAre.nil); (case kd => first | assumption | exact IntsAre.nil); (case ku => ktr_units)))
local macro_rules | `(tactic| walk_at "compareOp NotEq ref ref") => `(tactic| (k_here; k_dflt (refine' ke_ne_ints ?ka ?kb ?kc ?kd ?ku ?_); (case ka => exact ⟨_, News.get (by k_asm) (by k_mem), rfl, _, rfl⟩); (case kb => exact ⟨_, News.get (by k_asm) (by k_mem), rfl, _, rfl⟩); (case kc => first | assumption | exact IntsAre.nil); (case kd => first | assumption | exact IntsAre.nil); (case ku => ktr_units)))
local macro_rules | `(tactic| walk_at "eval Call") => `(tactic| (k_here; (with_reducible show wpAny _ _ (eval (Expr.Call (Expr.Name _ _) _ _ _) _) _ _ _); k_dflt (refine Call_ ?_)))
local macro_rules | `(tactic| walk_at "call ref") => `(tactic| (k_here; refine Held.out ?_))
local macro_rules | `(tactic| walk_at "eval ListComp") => `(tactic| (k_here; refine Held.out ?_))
local macro_rules | `(tactic| walk_at "CompEnd") => `(tactic| (refine Held.out ?_))
local macro_rules | `(tactic| walk_at "CompSrcT") => `(tactic| (k_here; refine Held.out ?_))
local macro_rules | `(tactic| walk_at "exec Assign cons ListComp") => `(tactic| (k_here; refine Held.out ?_))
local macro_rules | `(tactic| walk_at "pyIter ref") => `(tactic| (k_here; refine Held.out ?_))
local macro_rules | `(tactic| walk_at "exec While") => `(tactic| (k_here; refine Held.out ?_))
local macro_rules | `(tactic| k_all) => `(tactic| assumption)
theorem range_ok (w : World) (mean : ExcName → Option Value) (mg mb : Str → Option Value) (lo hi bits : Nat) (ta tb tt : Tok) (hb3 : 3 ≤ bits) (hb5 : bits ≤ 5) (hlo : lo ≤ hi) (hhi : hi < 2 ^ bits) :
  Does w mean mg mb 21 [.int ((lo : Nat) : Int) ta, .int ((hi : Nat) : Int) tb, .int (bits : Int) tt] 1 []
    (fun r led' => ∃ D vs k ts rs, r = .ref D ∧ (∀ p ∈ ts, p.1 ≠ D) ∧ RowsIn ts vs rs ∧ (∀ r ∈ rs, good bits r) ∧ told bits rs = consec lo (hi + 1 - lo) ∧ rs.length ≤ 32 ∧ led' = (D, listOf vs.toArray k) :: ts) := by
  unfold Does
  w_top off
  k_fill
  intro dp un gd cn cs fa ccd cl outer A₀ base h₀ L m s Q E B F X N T hk hdp hun hret
  refine wpAny_call ?_
  k_dflt (refine' code_defG ?k1 ?k2 ?k3 ?k4 ?k5 ?kA ?kF ?kK ?k6 ?k7 ?k8 ?k9 ?kB ?_ ?c2 ?c3 ?c4 ?c5; (case kA => exact rfl); (case kF => exact rfl); (case kK => assumption); (case k1 => k_asm); (case k2 => k_asm); (case k3 => k_asm); (case k4 => k_asm); (case k5 => k_asm); (case k6 => k_is); (case k7 => k_is); (case k8 => ktr_room); (case k9 => exact BindsTo.of_eq rfl); (case c5 => decide); (case kB => exact locs rfl); (case c2 => exact rfl); (case c3 => exact rfl); (case c4 => exact rfl); k_whole)
  intro g' L' h' FG' F' N' B' X' T' kG'
  (try dsimp only)
  (try k_fold)
  have hb20 : (bits : Int) ≤ 20 := by omega
  have h32 : 2 ^ bits ≤ 2 ^ 5 := Nat.pow_le_pow_right (by decide) hb5
  have hb0 : (0 : Int) ≤ (bits : Int) := by omega
  k_steps
  unfold Held
  k_dflt (refine' while_K (σ := RS) (fun c => (c.D, listOf c.vs.toArray c.k) :: c.ts) (fun c => [(Str.ofString "low", Value.int ((c.lo : Nat) : Int) c.t), (Str.ofString "found", Value.ref c.D)]) [Str.ofString "size"] (fun c => RowsIn c.ts c.vs c.rs ∧ (∀ p ∈ c.ts, p.1 ≠ c.D) ∧ lo ≤ c.lo ∧ c.lo ≤ hi + 1 ∧ (∀ r ∈ c.rs, good bits r) ∧ told bits c.rs = consec lo (c.lo - lo) ∧ c.rs.length ≤ c.lo - lo) (fun c => hi + 1 - c.lo) (by assumption) ?w0 ?wturn ?wE)
  case w0 => exact ⟨⟨lo, ta, _, [], _, [], []⟩, ⟨rfl, rfl, trivial⟩, news_sub (by assumption) (by kcj_all), .nil, (fun _ h => nomatch h), Nat.le_refl _, (by dsimp only; omega), (fun _ h => nomatch h), (by dsimp only; rw [Nat.sub_self]; rfl), Nat.zero_le _⟩
  case wE => passes_own
  case wturn =>
    intro c u h9 tk9 hP F9 N9
    obtain ⟨lo', t', D, vs, k, ts, rs⟩ := c
    dsimp only at hP F9 N9
    obtain ⟨hR, hD, h1, h2, h3, h4, h5⟩ := hP
    k_steps
    · have hB := sizeAt_all bits (bits_mem hb3 hb5) hi hhi lo' (by omega)
      unfold Held
      k_dflt (refine' while_K (σ := SS) (fun _ => (D, listOf vs.toArray k) :: ts) (fun c => [(Str.ofString "size", Value.int c.sz c.t)]) [] (fun c => shrink (lo' : Int) (hi : Int) c.n c.sz = sizeAt lo' hi bits) (fun c => c.n) (by assumption) ?v0 ?vturn ?vE)
      case v0 => exact ⟨⟨_, _, 6⟩, ⟨rfl, trivial⟩, by assumption, size0_pos (by assumption)⟩
      case vE => passes_own
      case vturn =>
        intro c u8 h8 tk8 hP8 F8 N8
        obtain ⟨sz, tz, nz⟩ := c
        dsimp only at hP8 F8 N8
        k_steps
        · have hlt : (hi : Int) < (lo' : Int) + sz - 1 := by assumption
          cases nz with
          | zero =>
            exfalso
            rw [show shrink (lo' : Int) (hi : Int) 0 sz = sz from rfl] at hP8
            omega
          | succ nz =>
            rw [shrink_step hlt] at hP8
            exact ksw_end ⟨_, _, nz⟩ (by assumption) (by assumption) (fun _ h => h) trivial (AllT.mem ⟨rfl, trivial⟩) (by
              intro z z1 z2
              have e1 : z ≠ Str.ofString "size" := z1 _ List.mem_cons_self
              dsimp only [kstB]
              simp only [if_neg e1, List.contains_nil, Bool.false_eq_true, if_false]) hP8 (Nat.lt_succ_self _)
        · have hge : ¬ (hi : Int) < (lo' : Int) + sz - 1 := by assumption
          have hz : sz = ((sizeAt lo' hi bits).toNat : Int) := by rw [Int.toNat_of_nonneg hB.1, ← hP8, shrink_done hge]
          obtain ⟨_, b1, b2, b3, b4, b5⟩ := hB
          generalize (sizeAt lo' hi bits).toNat = sN at hz b1 b2 b3 b4 b5
          clear hP8
          subst hz
          (with_reducible rename News _ _ _ _ => N7)
          rw [whole_is b4] at N7
          have lt7 := news_lt N7
          (with_reducible rename AllLt _ _ => lt7')
          have hl7 : vs.length ≤ 32 := by rw [hR.length]; omega
          (with_reducible rename (_ : Nat) < _ ∧ AllLt _ _ => l7)
          refine append_K (by assumption) N7 (Upd.tail (Nat.ne_of_gt l7.1) (Upd.head hD)) ?_ (by rw [List.size_toArray, sizeLine_eq]; omega)
          intro h7 F7 N7
          rw [List.push_toArray] at N7
          have N7 := news_swap N7
          k_steps
          refine ksw_end ⟨lo' + sN, _, D, vs ++ [.ref _], k + 1, _ :: ts, rs ++ [(lo', 2 ^ bits - sN)]⟩ (by assumption) (by assumption) (fun _ h => h) trivial (AllT.mem ⟨rfl, rfl, trivial⟩) ?_ ⟨(hR.mono fun _ h => List.mem_cons_of_mem _ h).snoc List.mem_cons_self, off_cons (Nat.ne_of_gt l7.1) hD, by dsimp only; omega, by dsimp only; omega, good_step h3 b1 b3, told_step h1 h4 b5, by dsimp only; rw [List.length_append, List.length_singleton]; omega⟩ (by dsimp only; omega)
          intro z z1 z2
          have e1 : z ≠ Str.ofString "low" := z1 _ List.mem_cons_self
          have e2 : z ≠ Str.ofString "found" := z1 _ (List.mem_cons_of_mem _ List.mem_cons_self)
          have e3 : z ≠ Str.ofString "size" := contains_ne z2 List.mem_cons_self
          dsimp only [kstB]
          simp only [if_neg e1, if_neg e2, if_neg e3, z2, List.contains_nil, Bool.false_eq_true, if_false]
    · have hB := sizeAt_all bits (bits_mem hb3 hb5) hi hhi lo' (by omega)
      unfold Held
      k_dflt (refine' while_K (σ := SS) (fun _ => (D, listOf vs.toArray k) :: ts) (fun c => [(Str.ofString "size", Value.int c.sz c.t)]) [] (fun c => shrink (lo' : Int) (hi : Int) c.n c.sz = sizeAt lo' hi bits) (fun c => c.n) (by assumption) ?v0 ?vturn ?vE)
      case v0 => exact ⟨⟨_, _, 6⟩, ⟨rfl, trivial⟩, by assumption, size0_neg (by assumption)⟩
      case vE => passes_own
      case vturn =>
        intro c u8 h8 tk8 hP8 F8 N8
        obtain ⟨sz, tz, nz⟩ := c
        dsimp only at hP8 F8 N8
        k_steps
        · have hlt : (hi : Int) < (lo' : Int) + sz - 1 := by assumption
          cases nz with
          | zero =>
            exfalso
            rw [show shrink (lo' : Int) (hi : Int) 0 sz = sz from rfl] at hP8
            omega
          | succ nz =>
            rw [shrink_step hlt] at hP8
            exact ksw_end ⟨_, _, nz⟩ (by assumption) (by assumption) (fun _ h => h) trivial (AllT.mem ⟨rfl, trivial⟩) (by
              intro z z1 z2
              have e1 : z ≠ Str.ofString "size" := z1 _ List.mem_cons_self
              dsimp only [kstB]
              simp only [if_neg e1, List.contains_nil, Bool.false_eq_true, if_false]) hP8 (Nat.lt_succ_self _)
        · have hge : ¬ (hi : Int) < (lo' : Int) + sz - 1 := by assumption
          have hz : sz = ((sizeAt lo' hi bits).toNat : Int) := by rw [Int.toNat_of_nonneg hB.1, ← hP8, shrink_done hge]
          obtain ⟨_, b1, b2, b3, b4, b5⟩ := hB
          generalize (sizeAt lo' hi bits).toNat = sN at hz b1 b2 b3 b4 b5
          clear hP8
          subst hz
          (with_reducible rename News _ _ _ _ => N7)
          rw [whole_is b4] at N7
          have lt7 := news_lt N7
          (with_reducible rename AllLt _ _ => lt7')
          have hl7 : vs.length ≤ 32 := by rw [hR.length]; omega
          (with_reducible rename (_ : Nat) < _ ∧ AllLt _ _ => l7)
          refine append_K (by assumption) N7 (Upd.tail (Nat.ne_of_gt l7.1) (Upd.head hD)) ?_ (by rw [List.size_toArray, sizeLine_eq]; omega)
          intro h7 F7 N7
          rw [List.push_toArray] at N7
          have N7 := news_swap N7
          k_steps
          refine ksw_end ⟨lo' + sN, _, D, vs ++ [.ref _], k + 1, _ :: ts, rs ++ [(lo', 2 ^ bits - sN)]⟩ (by assumption) (by assumption) (fun _ h => h) trivial (AllT.mem ⟨rfl, rfl, trivial⟩) ?_ ⟨(hR.mono fun _ h => List.mem_cons_of_mem _ h).snoc List.mem_cons_self, off_cons (Nat.ne_of_gt l7.1) hD, by dsimp only; omega, by dsimp only; omega, good_step h3 b1 b3, told_step h1 h4 b5, by dsimp only; rw [List.length_append, List.length_singleton]; omega⟩ (by dsimp only; omega)
          intro z z1 z2
          have e1 : z ≠ Str.ofString "low" := z1 _ List.mem_cons_self
          have e2 : z ≠ Str.ofString "found" := z1 _ (List.mem_cons_of_mem _ List.mem_cons_self)
          have e3 : z ≠ Str.ofString "size" := contains_ne z2 List.mem_cons_self
          dsimp only [kstB]
          simp only [if_neg e1, if_neg e2, if_neg e3, z2, List.contains_nil, Bool.false_eq_true, if_false]
    · have e9 : lo' = hi + 1 := by omega
      subst e9
      exact hret _ _ _ _ (by assumption) (news_sub (by assumption) (by kcj_all)) (keep_of (by assumption) (by assumption)) (fresh_of (by assumption) (news_sub (by assumption) (by kcj_all))) ⟨D, vs, k, ts, rs, rfl, hD, hR, h3, h4, by omega, rfl⟩
end Mine
namespace Mine
local macro_rules | `(tactic| walk_at "binaryOp Pow int int") => `(tactic| (k_dflt (refine pw_2 ?k1 ?k2 ?_); (case k1 => with_reducible assumption); (case k2 => with_reducible assumption)))
local macro_rules | `(tactic| walk_at "binaryOp FloorDiv int int") => `(tactic| (k_dflt (refine fd_pow ?k2 ?_); (case k2 => with_reducible assumption)))
local macro_rules | `(tactic| walk_at "binaryOp Mod int int") => `(tactic| (k_dflt (refine md_2 ?_)))
local macro_rules | `(tactic| walk_at "compareOp Eq ref ref") => `(tactic| (k_here; k_dflt (refine' ke_eq_ints ?ka ?kb ?kc ?kd ?ku ?_); (case ka => exact ⟨_, News.get (by k_asm) (by k_mem), rfl, _, rfl⟩); (case kb => exact ⟨_, News.get (by k_asm) (by k_mem), rfl, _, rfl⟩); (case kc => first | assumption | exact IntsAre.nil); (case kd => first | assumption | exact IntsAre.nil); (case ku => ktr_units)))
local macro_rules | `(tactic| walk_at "compareOp NotEq ref ref") => `(tactic| (k_here; k_dflt (refine' ke_ne_ints ?ka ?kb ?kc ?kd ?ku ?_); (case ka => exact ⟨_, News.get (by k_asm) (by k_mem), rfl, _, rfl⟩); (case kb => exact ⟨_, News.get (by k_asm) (by k_mem), rfl, _, rfl⟩); (case kc => first | assumption | exact IntsAre.nil); (case kd => first | assumption | exact IntsAre.nil); (case ku => ktr_units)))
local macro_rules | `(tactic| walk_at "eval Call") => `(tactic| (k_here; (with_reducible show wpAny _ _ (eval (Expr.Call (Expr.Name _ _) _ _ _) _) _ _ _); k_dflt (refine Call_ ?_)))
local macro_rules | `(tactic| walk_at "call ref") => `(tactic| (k_here; refine Held.out ?_))
local macro_rules | `(tactic| walk_at "eval ListComp") => `(tactic| (k_here; refine Held.out ?_))
local macro_rules | `(tactic| walk_at "CompEnd") => `(tactic| (refine Held.out ?_))
local macro_rules | `(tactic| walk_at "CompSrcT") => `(tactic| (k_here; refine Held.out ?_))
local macro_rules | `(tactic| walk_at "exec Assign cons ListComp") => `(tactic| (k_here; refine Held.out ?_))
local macro_rules | `(tactic| walk_at "pyIter ref") => `(tactic| (k_here; refine Held.out ?_))
theorem both_ok (w : World) (mean : ExcName → Option Value) (mg mb : Str → Option Value) (p q : Addr) (v₁ m₁ v₂ m₂ : Nat) (a₁ b₁ a₂ b₂ : Tok) (n₁ n₂ : Nat) (bits : Nat) (tt : Tok) (hb3 : 3 ≤ bits) (hb5 : bits ≤ 5) (hpq : @Ne Nat p q) (hm₁ : m₁ < 2 ^ bits) (hv₁ : v₁ &&& m₁ = v₁) (hm₂ : m₂ < 2 ^ bits) (hv₂ : v₂ &&& m₂ = v₂) :
  Does w mean mg mb 85 [.ref p, .ref q, .int (bits : Int) tt] 2 [(p, tupOf #[.int (v₁ : Int) a₁, .int (m₁ : Int) b₁] n₁), (q, tupOf #[.int (v₂ : Int) a₂, .int (m₂ : Int) b₂] n₂)]
    (fun r led' => r = .bool true ∧ led' = [(p, tupOf #[.int (v₁ : Int) a₁, .int (m₁ : Int) b₁] n₁), (q, tupOf #[.int (v₂ : Int) a₂, .int (m₂ : Int) b₂] n₂)]) := by
  unfold Does
  w_top off
  k_fill
  intro dp un gd cn cs fa ccd cl outer A₀ base h₀ L m s Q E B F X N T hk hdp hun hret
  refine wpAny_call ?_
  k_dflt (refine' defCG ?k1 ?k2 ?k3 ?k4 ?k5 ?kA ?kF ?kK ?k6 ?k7 ?k8 ?k9 ?kB ?kD ?_ ?c2 ?c3 ?c4; (case kA => exact rfl); (case kF => exact rfl); (case kK => assumption); (case k1 => k_asm); (case k2 => k_asm); (case k3 => k_asm); (case k4 => k_asm); (case k5 => k_asm); (case k6 => k_is); (case k7 => k_is); (case k8 => ktr_room); (case k9 => exact BindsTo.of_eq rfl); (case kB => exact rfl); (case kD => decide +kernel); (case c2 => exact rfl); (case c3 => exact rfl); (case c4 => exact rfl); k_whole)
  intro g' L' h' tk' cells' FG' F' N' Y' B' X' T' l1 kG'
  (try k_lt l1)
  obtain ⟨oc1, hE, d1⟩ := CellsAre.one Y'
  subst hE
  clear Y'
  (try simp only [List.cons_append, List.nil_append] at N')
  (try dsimp only)
  (try k_fold)
  k_steps
  (try unfold Held)
  (with_reducible rename News _ _ _ _ => kN0)
  k_dflt (refine' Does.use (numbers_ok w mean mg mb p v₁ m₁ a₁ b₁ n₁ bits _ hb3 hb5) ?uB ?uF ?uX ?uN ?uT ?uk ?ud ?uu ?_)
  case uB => k_asm
  case uF => k_asm
  case uX => k_asm
  case uN => (refine' news_sub kN0 ?uNS; (case uNS => kcj_all))
  case uT => k_asm
  case uk => first | exact rfl | assumption
  case ud => ktr_room
  case uu => ktr_units
  intro r9 led9 h9 tk9 F9 N9 keep9 new9 out9
  have lt9 := news_lt kN0
  obtain ⟨D₁, y₁, k₁, rfl, hd1, hy1, rfl⟩ := out9
  have ne9 := fresh_ne kN0 (new9 (D₁, _) List.mem_cons_self (off1 hd1))
  (simp only [AllNe, and_true] at ne9)
  have M9 := news_joinL [1] kN0 N9 keep9 (by (dsimp only [drops, List.eraseIdx, List.map]); (simp only [AllOff, OffL, and_true]); (try omega))
  (try (dsimp only [drops, List.eraseIdx, List.cons_append, List.nil_append] at M9))
  (try (simp only [AllLt, and_true] at lt9))
  (try (dsimp only at lt9))
  clear keep9 new9 kN0; (try clear N9)
  have z1 := vs_len hy1 hb5
  rw [nums_is hb3 hb5 hm₁ hv₁] at hy1
  k_steps
  (try unfold Held)
  (with_reducible rename News _ _ _ _ => kN0)
  k_dflt (refine' Does.use (numbers_ok w mean mg mb q v₂ m₂ a₂ b₂ n₂ bits _ hb3 hb5) ?uB ?uF ?uX ?uN ?uT ?uk ?ud ?uu ?_)
  case uB => k_asm
  case uF => k_asm
  case uX => k_asm
  case uN => (refine' news_sub kN0 ?uNS; (case uNS => kcj_all))
  case uT => k_asm
  case uk => first | exact rfl | assumption
  case ud => ktr_room
  case uu => ktr_units
  intro r9 led9 h9 tk9 F9 N9 keep9 new9 out9
  have lt9 := news_lt kN0
  obtain ⟨D₂, y₂, k₂, rfl, hd2, hy2, rfl⟩ := out9
  have ne9 := fresh_ne kN0 (new9 (D₂, _) List.mem_cons_self (off1 hd2))
  (simp only [AllNe, and_true] at ne9)
  have M9 := news_joinL [3] kN0 N9 keep9 (by (dsimp only [drops, List.eraseIdx, List.map]); (simp only [AllOff, OffL, and_true]); (try omega))
  (try (dsimp only [drops, List.eraseIdx, List.cons_append, List.nil_append] at M9))
  (try (simp only [AllLt, and_true] at lt9))
  (try (dsimp only at lt9))
  clear keep9 new9 kN0; (try clear N9)
  have z2 := vs_len hy2 hb5
  rw [nums_is hb3 hb5 hm₂ hv₂] at hy2
  have P12 := within_law hm₁ hv₁ hm₂ hv₂
  have P21 := within_law hm₂ hv₂ hm₁ hv₁
  have M12 := meet_law hb5 hm₁ hv₁ hm₂ hv₂
  have M21 := meet_law hb5 hm₂ hv₂ hm₁ hv₁
  have hcz := common_is v₁ m₁ v₂ m₂ bits
  rw [both_comm v₂ m₂ v₁ m₁] at P21 M21
  generalize both v₁ m₁ v₂ m₂ bits = cz at P12 P21 M12 M21 hcz
  generalize nums v₁ m₁ bits = N1 at hy1 P12 hcz
  generalize nums v₂ m₂ bits = N2 at hy2 P21 hcz
  k_steps
  unfold Held
  k_dflt (refine LCt.Assign_ListComp_T (F₀ := by k_asm) (by rfl) (by with_unfolding_all rfl) (by with_unfolding_all rfl) (by decide) (by rfl) (by decide) (by rfl) (by rfl) (by rfl) ?_)
  k_steps
  unfold Held
  k_dflt (refine LCt.CompSrcT.ledger (its := y₁.toArray) (by rfl) (by k_asm) (by k_asm) (by k_mem) (by rw [List.size_toArray, sizeLine_eq]; omega) ?_)
  intro g9
  refine' kci_list (cfold N2) hy1 (fun k' t' I' oI' C' oC' D' m' ys' l' h' tk' E' hk' hI' hC' hx' F' N' off' ne' hMark' => ?_) ?_ ?_
  all_goals (try (simp only [LCg.Off3, and_true] at off'))
  · k_steps
    all_goals unfold Held
    · exact LCg.CompEnd.intro (by assumption) (by assumption) _ (fun _ hp => hp) (by simp only [LCg.Off3, and_true]; exact off') (by lcg_src) ⟨rfl, _, _, rfl, if_pos (by assumption)⟩
    · exact LCg.CompEnd.intro (by assumption) (by assumption) _ (fun _ hp => hp) (by simp only [LCg.Off3, and_true]; exact off') (by lcg_src) ⟨rfl, if_neg (by first | assumption | exact Bool.not_eq_true_eq_eq_false ▸ (by assumption) | (intro hh9; simp_all))⟩
  · unfold KPfDone LCg.FinA
    intro ys hys hlen D8 h8 tk8 F8 N8 off8
    rw [cfold_is, List.nil_append, hcz] at hys
    simp only [LCg.Off1, and_true] at off8
    k_steps
    (try unfold Held)
    (with_reducible rename News _ _ _ _ => kN0)
    k_dflt (refine' Does.use (within_ok w mean mg mb p q (v₁ : Int) (m₁ : Int) (v₂ : Int) (m₂ : Int) a₁ b₁ a₂ b₂ n₁ n₂) ?uB ?uF ?uX ?uN ?uT ?uk ?ud ?uu ?_)
    case uB => k_asm
    case uF => k_asm
    case uX => k_asm
    case uN => (refine' news_sub kN0 ?uNS; (case uNS => kcj_all))
    case uT => k_asm
    case uk => first | exact rfl | assumption
    case ud => ktr_room
    case uu => ktr_units
    intro r9 led9 h9 tk9 F9 N9 keep9 new9 out9
    have lt9 := news_lt kN0
    obtain ⟨rfl, rfl⟩ := out9
    have M9 := news_joinL [3, 4] kN0 N9 keep9 (by (dsimp only [drops, List.eraseIdx, List.map]); (simp only [AllOff, OffL, and_true]); (try omega))
    (try (dsimp only [drops, List.eraseIdx, List.cons_append, List.nil_append] at M9))
    (try (simp only [AllLt, and_true] at lt9))
    (try (dsimp only at lt9))
    clear keep9 new9 kN0; (try clear N9)
    k_steps
    (try unfold Held)
    (with_reducible rename News _ _ _ _ => kN0)
    k_dflt (refine' Does.use (within_ok w mean mg mb q p (v₂ : Int) (m₂ : Int) (v₁ : Int) (m₁ : Int) a₂ b₂ a₁ b₁ n₂ n₁) ?uB ?uF ?uX ?uN ?uT ?uk ?ud ?uu ?_)
    case uB => k_asm
    case uF => k_asm
    case uX => k_asm
    case uN => (refine' news_sub kN0 ?uNS; (case uNS => kcj_all))
    case uT => k_asm
    case uk => first | exact rfl | assumption
    case ud => ktr_room
    case uu => ktr_units
    intro r9 led9 h9 tk9 F9 N9 keep9 new9 out9
    have lt9 := news_lt kN0
    obtain ⟨rfl, rfl⟩ := out9
    have M9 := news_joinL [1, 0] kN0 N9 keep9 (by (dsimp only [drops, List.eraseIdx, List.map]); (simp only [AllOff, OffL, and_true]); (try omega))
    (try (dsimp only [drops, List.eraseIdx, List.cons_append, List.nil_append] at M9))
    (try (simp only [AllLt, and_true] at lt9))
    (try (dsimp only at lt9))
    clear keep9 new9 kN0; (try clear N9)
    k_steps
    (try unfold Held)
    (with_reducible rename News _ _ _ _ => kN0)
    k_dflt (refine' Does.use (meet_ok w mean mg mb p q (v₁ : Int) (m₁ : Int) (v₂ : Int) (m₂ : Int) a₁ b₁ a₂ b₂ n₁ n₂) ?uB ?uF ?uX ?uN ?uT ?uk ?ud ?uu ?_)
    case uB => k_asm
    case uF => k_asm
    case uX => k_asm
    case uN => (refine' news_sub kN0 ?uNS; (case uNS => kcj_all))
    case uT => k_asm
    case uk => first | exact rfl | assumption
    case ud => ktr_room
    case uu => ktr_units
    intro r9 led9 h9 tk9 F9 N9 keep9 new9 out9
    have lt9 := news_lt kN0
    obtain ⟨rfl, rfl⟩ := out9
    have M9 := news_joinL [1, 0] kN0 N9 keep9 (by (dsimp only [drops, List.eraseIdx, List.map]); (simp only [AllOff, OffL, and_true]); (try omega))
    (try (dsimp only [drops, List.eraseIdx, List.cons_append, List.nil_append] at M9))
    (try (simp only [AllLt, and_true] at lt9))
    (try (dsimp only at lt9))
    clear keep9 new9 kN0; (try clear N9)
    k_steps
    (try unfold Held)
    (with_reducible rename News _ _ _ _ => kN0)
    k_dflt (refine' Does.use (meet_ok w mean mg mb q p (v₂ : Int) (m₂ : Int) (v₁ : Int) (m₁ : Int) a₂ b₂ a₁ b₁ n₂ n₁) ?uB ?uF ?uX ?uN ?uT ?uk ?ud ?uu ?_)
    case uB => k_asm
    case uF => k_asm
    case uX => k_asm
    case uN => (refine' news_sub kN0 ?uNS; (case uNS => kcj_all))
    case uT => k_asm
    case uk => first | exact rfl | assumption
    case ud => ktr_room
    case uu => ktr_units
    intro r9 led9 h9 tk9 F9 N9 keep9 new9 out9
    have lt9 := news_lt kN0
    obtain ⟨rfl, rfl⟩ := out9
    have M9 := news_joinL [2, 1] kN0 N9 keep9 (by (dsimp only [drops, List.eraseIdx, List.map]); (simp only [AllOff, OffL, and_true]); (try omega))
    (try (dsimp only [drops, List.eraseIdx, List.cons_append, List.nil_append] at M9))
    (try (simp only [AllLt, and_true] at lt9))
    (try (dsimp only at lt9))
    clear keep9 new9 kN0; (try clear N9)
    k_steps
    rw [M21]
    exact hret _ _ _ _ (by assumption) (news_sub (by assumption) (by kcj_all)) (keep_of (by assumption) (by assumption)) (fresh_of (by assumption) (news_sub (by assumption) (by kcj_all))) ⟨rfl, rfl⟩
  · exact cfold_grows _
end Mine
namespace Mine
local macro_rules | `(tactic| walk_at "compareOp Eq ref ref") => `(tactic| (k_here; k_dflt (refine' ke_eq_ints ?ka ?kb ?kc ?kd ?ku ?_); (case ka => exact ⟨_, News.get (by k_asm) (by k_mem), rfl, _, rfl⟩); (case kb => exact ⟨_, News.get (by k_asm) (by k_mem), rfl, _, rfl⟩); (case kc => first | assumption | exact IntsAre.nil); (case kd => first | assumption | exact IntsAre.nil); (case ku => ktr_units)))
local macro_rules | `(tactic| walk_at "compareOp NotEq ref ref") => `(tactic| (k_here; k_dflt (refine' ke_ne_ints ?ka ?kb ?kc ?kd ?ku ?_); (case ka => exact ⟨_, News.get (by k_asm) (by k_mem), rfl, _, rfl⟩); (case kb => exact ⟨_, News.get (by k_asm) (by k_mem), rfl, _, rfl⟩); (case kc => first | assumption | exact IntsAre.nil); (case kd => first | assumption | exact IntsAre.nil); (case ku => ktr_units)))
local macro_rules | `(tactic| walk_at "eval Call") => `(tactic| (k_here; (with_reducible show wpAny _ _ (eval (Expr.Call (Expr.Name _ _) _ _ _) _) _ _ _); k_dflt (refine Call_ ?_)))
local macro_rules | `(tactic| walk_at "call ref") => `(tactic| (k_here; refine Held.out ?_))
local macro_rules | `(tactic| walk_at "eval ListComp") => `(tactic| (k_here; refine Held.out ?_))
local macro_rules | `(tactic| walk_at "CompEnd") => `(tactic| (refine Held.out ?_))
local macro_rules | `(tactic| walk_at "CompSrcT") => `(tactic| (k_here; refine Held.out ?_))
local macro_rules | `(tactic| walk_at "exec Assign cons ListComp") => `(tactic| (k_here; refine Held.out ?_))
local macro_rules | `(tactic| walk_at "pyIter ref") => `(tactic| (k_here; refine Held.out ?_))
local macro_rules | `(tactic| walk_at "subscriptTail Name Slice ref ref") => `(tactic| (k_here; k_dflt (refine' tup_tail ?F ?N ?t ?_ ?hs ?hg); (case F => k_asm); (case N => k_asm); (case t => k_mem); (case hs => with_unfolding_all rfl); (case hg => intro _; with_unfolding_all rfl); intro D' h' F' N' l1; (try k_lt l1)))
theorem ends_mask (w : World) (mean : ExcName → Option Value) (mg mb : Str → Option Value) (W : Addr) (v mm : Int) (ts tv tm : Tok) (n : Nat) (bits : Nat) (tt : Tok) (hb3 : 3 ≤ bits) (hb5 : bits ≤ 5) :
  Does w mean mg mb 49 [.ref W, .int (bits : Int) tt] 1 [(W, tupOf #[.str (Str.ofString "mask") ts, .int v tv, .int mm tm] n)]
    (fun r led' => ∃ D t1 t2 k, r = .ref D ∧ (@Ne Nat D W) ∧ led' = [(D, tupOf #[.int v t1, .int (v + (1 * 2 ^ (bits : Int).toNat - 1 - mm)) t2] k), (W, tupOf #[.str (Str.ofString "mask") ts, .int v tv, .int mm tm] n)]) := by
  unfold Does
  w_top off
  k_fill
  intro dp un gd cn cs fa ccd cl outer A₀ base h₀ L m s Q E B F X N T hk hdp hun hret
  refine wpAny_call ?_
  k_dflt (refine' code_defG ?k1 ?k2 ?k3 ?k4 ?k5 ?kA ?kF ?kK ?k6 ?k7 ?k8 ?k9 ?kB ?_ ?c2 ?c3 ?c4 ?c5; (case kA => exact rfl); (case kF => exact rfl); (case kK => assumption); (case k1 => k_asm); (case k2 => k_asm); (case k3 => k_asm); (case k4 => k_asm); (case k5 => k_asm); (case k6 => k_is); (case k7 => k_is); (case k8 => ktr_room); (case k9 => exact BindsTo.of_eq rfl); (case c5 => decide); (case kB => exact locs rfl); (case c2 => exact rfl); (case c3 => exact rfl); (case c4 => exact rfl); k_whole)
  intro g' L' h' FG' F' N' B' X' T' kG'
  (try dsimp only)
  (try k_fold)
  have hb20 : (bits : Int) ≤ 20 := by omega
  have hb0 : (0 : Int) ≤ (bits : Int) := by omega
  k_steps
  exact hret _ _ _ _ (by assumption) (news_sub (by assumption) (by kcj_all)) (keep_of (by assumption) (by assumption)) (fresh_of (by assumption) (news_sub (by assumption) (by kcj_all))) ⟨_, _, _, _, rfl, by omega, rfl⟩
theorem ends_range (w : World) (mean : ExcName → Option Value) (mg mb : Str → Option Value) (W : Addr) (v mm : Int) (ts tv tm : Tok) (n : Nat) (bits : Nat) (tt : Tok) (hb3 : 3 ≤ bits) (hb5 : bits ≤ 5) :
  Does w mean mg mb 49 [.ref W, .int (bits : Int) tt] 1 [(W, tupOf #[.str (Str.ofString "range") ts, .int v tv, .int mm tm] n)]
    (fun r led' => ∃ D t1 t2 k, r = .ref D ∧ (@Ne Nat D W) ∧ led' = [(D, tupOf #[.int v t1, .int mm t2] k), (W, tupOf #[.str (Str.ofString "range") ts, .int v tv, .int mm tm] n)]) := by
  unfold Does
  w_top off
  k_fill
  intro dp un gd cn cs fa ccd cl outer A₀ base h₀ L m s Q E B F X N T hk hdp hun hret
  refine wpAny_call ?_
  k_dflt (refine' code_defG ?k1 ?k2 ?k3 ?k4 ?k5 ?kA ?kF ?kK ?k6 ?k7 ?k8 ?k9 ?kB ?_ ?c2 ?c3 ?c4 ?c5; (case kA => exact rfl); (case kF => exact rfl); (case kK => assumption); (case k1 => k_asm); (case k2 => k_asm); (case k3 => k_asm); (case k4 => k_asm); (case k5 => k_asm); (case k6 => k_is); (case k7 => k_is); (case k8 => ktr_room); (case k9 => exact BindsTo.of_eq rfl); (case c5 => decide); (case kB => exact locs rfl); (case c2 => exact rfl); (case c3 => exact rfl); (case c4 => exact rfl); k_whole)
  intro g' L' h' FG' F' N' B' X' T' kG'
  (try dsimp only)
  (try k_fold)
  have hb20 : (bits : Int) ≤ 20 := by omega
  have hb0 : (0 : Int) ≤ (bits : Int) := by omega
  k_steps
  exact hret _ _ _ _ (by assumption) (news_sub (by assumption) (by kcj_all)) (keep_of (by assumption) (by assumption)) (fresh_of (by assumption) (news_sub (by assumption) (by kcj_all))) ⟨_, _, _, _, rfl, by omega, rfl⟩
theorem wish_mask (w : World) (mean : ExcName → Option Value) (mg mb : Str → Option Value) (W : Addr) (v mm : Int) (ts tv tm : Tok) (n : Nat) (bits : Nat) (tt : Tok) (hb3 : 3 ≤ bits) (hb5 : bits ≤ 5) :
  Does w mean mg mb 28 [.ref W, .int (bits : Int) tt] 1 [(W, tupOf #[.str (Str.ofString "mask") ts, .int v tv, .int mm tm] n)]
    (fun r led' => ∃ D T t1 t2 k k2, r = .ref D ∧ (@Ne Nat D W) ∧ (@Ne Nat T W) ∧ (@Ne Nat D T) ∧ led' = [(D, listOf #[.ref T] k), (T, tupOf #[.int v t1, .int mm t2] k2), (W, tupOf #[.str (Str.ofString "mask") ts, .int v tv, .int mm tm] n)]) := by
  unfold Does
  w_top off
  k_fill
  intro dp un gd cn cs fa ccd cl outer A₀ base h₀ L m s Q E B F X N T hk hdp hun hret
  refine wpAny_call ?_
  k_dflt (refine' code_defG ?k1 ?k2 ?k3 ?k4 ?k5 ?kA ?kF ?kK ?k6 ?k7 ?k8 ?k9 ?kB ?_ ?c2 ?c3 ?c4 ?c5; (case kA => exact rfl); (case kF => exact rfl); (case kK => assumption); (case k1 => k_asm); (case k2 => k_asm); (case k3 => k_asm); (case k4 => k_asm); (case k5 => k_asm); (case k6 => k_is); (case k7 => k_is); (case k8 => ktr_room); (case k9 => exact BindsTo.of_eq rfl); (case c5 => decide); (case kB => exact locs rfl); (case c2 => exact rfl); (case c3 => exact rfl); (case c4 => exact rfl); k_whole)
  intro g' L' h' FG' F' N' B' X' T' kG'
  (try dsimp only)
  (try k_fold)
  have hb20 : (bits : Int) ≤ 20 := by omega
  have hb0 : (0 : Int) ≤ (bits : Int) := by omega
  k_steps
  exact hret _ _ _ _ (by assumption) (news_sub (by assumption) (by kcj_all)) (keep_of (by assumption) (by assumption)) (fresh_of (by assumption) (news_sub (by assumption) (by kcj_all))) ⟨_, _, _, _, _, _, rfl, by omega, by omega, by omega, rfl⟩
theorem wish_range (w : World) (mean : ExcName → Option Value) (mg mb : Str → Option Value) (W : Addr) (lo hi : Nat) (ts tv tm : Tok) (n : Nat) (bits : Nat) (tt : Tok) (hb3 : 3 ≤ bits) (hb5 : bits ≤ 5) (hlo : lo ≤ hi) (hhi : hi < 2 ^ bits) :
  Does w mean mg mb 28 [.ref W, .int (bits : Int) tt] 2 [(W, tupOf #[.str (Str.ofString "range") ts, .int ((lo : Nat) : Int) tv, .int ((hi : Nat) : Int) tm] n)]
    (fun r led' => ∃ D vs k ts rs, r = .ref D ∧ (∀ p ∈ ts, p.1 ≠ D) ∧ (∀ p ∈ ts, p.1 ≠ W) ∧ (@Ne Nat D W) ∧ RowsIn ts vs rs ∧ (∀ r ∈ rs, good bits r) ∧ told bits rs = consec lo (hi + 1 - lo) ∧ rs.length ≤ 32 ∧ led' = (D, listOf vs.toArray k) :: ts) := by
  unfold Does
  w_top off
  k_fill
  intro dp un gd cn cs fa ccd cl outer A₀ base h₀ L m s Q E B F X N T hk hdp hun hret
  refine wpAny_call ?_
  k_dflt (refine' code_defG ?k1 ?k2 ?k3 ?k4 ?k5 ?kA ?kF ?kK ?k6 ?k7 ?k8 ?k9 ?kB ?_ ?c2 ?c3 ?c4 ?c5; (case kA => exact rfl); (case kF => exact rfl); (case kK => assumption); (case k1 => k_asm); (case k2 => k_asm); (case k3 => k_asm); (case k4 => k_asm); (case k5 => k_asm); (case k6 => k_is); (case k7 => k_is); (case k8 => ktr_room); (case k9 => exact BindsTo.of_eq rfl); (case c5 => decide); (case kB => exact locs rfl); (case c2 => exact rfl); (case c3 => exact rfl); (case c4 => exact rfl); k_whole)
  intro g' L' h' FG' F' N' B' X' T' kG'
  (try dsimp only)
  (try k_fold)
  have hb20 : (bits : Int) ≤ 20 := by omega
  have hb0 : (0 : Int) ≤ (bits : Int) := by omega
  k_steps
  (try unfold Held)
  (with_reducible rename News _ _ _ _ => kN0)
  k_dflt (refine' Does.use (range_ok w mean mg mb lo hi bits _ _ _ hb3 hb5 hlo hhi) ?uB ?uF ?uX ?uN ?uT ?uk ?ud ?uu ?_)
  case uB => k_asm
  case uF => k_asm
  case uX => k_asm
  case uN => (refine' news_sub kN0 ?uNS; (case uNS => kcj_all))
  case uT => k_asm
  case uk => first | exact rfl | assumption
  case ud => ktr_room
  case uu => ktr_units
  intro r9 led9 h9 tk9 F9 N9 keep9 new9 out9
  have lt9 := news_lt kN0
  obtain ⟨D, vs, k, ts, rs, rfl, hD, hR, hg, hto, hl, rfl⟩ := out9
  have nW := fresh_off kN0 (W := W) List.mem_cons_self new9 (fun _ _ h => nomatch h)
  have M9 := news_joinL [] kN0 N9 keep9 (by (dsimp only [drops, List.eraseIdx, List.map]); (simp only [AllOff, OffL, and_true]); (try omega))
  (try (dsimp only [drops, List.eraseIdx, List.cons_append, List.nil_append] at M9))
  (try (simp only [AllLt, and_true] at lt9))
  (try (dsimp only at lt9))
  clear keep9 new9 kN0; (try clear N9)
  k_steps
  (with_reducible rename News h₀ L _ _ => kN2)
  exact hret _ ((D, listOf vs.toArray k) :: ts) _ _ (by assumption) (news_sub kN2 fun p hp => List.mem_append_left [_] hp) (keep_of (by assumption) (by assumption)) (fresh_of (by assumption) (news_sub M9 fun p hp => List.mem_append_left [_] hp)) ⟨D, vs, k, ts, rs, rfl, hD, (fun p hp => nW p (List.mem_cons_of_mem _ hp)), nW _ List.mem_cons_self, hR, hg, hto, hl, rfl⟩
theorem one_ok (w : World) (mean : ExcName → Option Value) (mg mb : Str → Option Value) (W : Addr) (ys : List Value) (ns : List Int) (k : Nat) (src : Addr) (a b : Int) (ta tb : Tok) (n : Nat) (hi : IntsAre ys ns) (h1 : 1 ≤ ns.length) (h9 : ns.length ≤ 9) (ha : 0 ≤ a) (hb : 0 ≤ b) (hb2 : b < 2147483647) (hW : @Ne Nat W src) :
  Does w mean mg mb 70 [.ref src, .ref W] 2 [(W, listOf ys.toArray k), (src, listOf #[.int a ta, .int b tb] n)]
    (fun r led' => ∃ y t a' b' ta' tb', r = .int y t ∧ y ∈ ns ∧ 0 ≤ a' ∧ 0 ≤ b' ∧ b' < 2147483647 ∧ led' = [(W, listOf ys.toArray k), (src, listOf #[.int a' ta', .int b' tb'] n)]) := by
  unfold Does
  w_top off
  k_fill
  intro dp un gd cn cs fa ccd cl outer A₀ base h₀ L m s Q E B F X N T hk hdp hun hret
  refine wpAny_call ?_
  k_dflt (refine' code_defG ?k1 ?k2 ?k3 ?k4 ?k5 ?kA ?kF ?kK ?k6 ?k7 ?k8 ?k9 ?kB ?_ ?c2 ?c3 ?c4 ?c5; (case kA => exact rfl); (case kF => exact rfl); (case kK => assumption); (case k1 => k_asm); (case k2 => k_asm); (case k3 => k_asm); (case k4 => k_asm); (case k5 => k_asm); (case k6 => k_is); (case k7 => k_is); (case k8 => ktr_room); (case k9 => exact BindsTo.of_eq rfl); (case c5 => decide); (case kB => exact locs rfl); (case c2 => exact rfl); (case c3 => exact rfl); (case c4 => exact rfl); k_whole)
  intro g' L' h' FG' F' N' B' X' T' kG'
  (try dsimp only)
  (try k_fold)
  k_steps
  (try unfold Held)
  (with_reducible rename News _ _ _ _ => kN0)
  k_dflt (refine' Does.use (take_ok w mean mg mb src a b ta tb n _ _ ha hb hb2 (by omega) (by omega)) ?uB ?uF ?uX ?uN ?uT ?uk ?ud ?uu ?_)
  case uB => k_asm
  case uF => k_asm
  case uX => k_asm
  case uN => (refine' news_sub kN0 ?uNS; (case uNS => kcj_all))
  case uT => k_asm
  case uk => first | exact rfl | assumption
  case ud => ktr_room
  case uu => ktr_units
  intro r9 led9 h9 tk9 F9 N9 keep9 new9 out9
  have lt9 := news_lt kN0
  obtain ⟨x1, t1, a1, b1, ta1, tb1, rfl, hx0, hx1, ha1, hb1, hb12, rfl⟩ := out9
  have M9 := news_joinL [1] kN0 N9 keep9 (by (dsimp only [drops, List.eraseIdx, List.map]); (simp only [AllOff, OffL, and_true]); (try omega))
  (try (dsimp only [drops, List.eraseIdx, List.cons_append, List.nil_append] at M9))
  (try (simp only [AllLt, and_true] at lt9))
  (try (dsimp only at lt9))
  clear keep9 new9 kN0; (try clear N9)
  k_steps
  exact hret _ _ _ _ (by assumption) (news_sub (by assumption) (by kcj_all)) (keep_of (by assumption) (by assumption)) (fresh_of (by assumption) (news_sub (by assumption) (by kcj_all))) ⟨_, _, _, _, _, _, rfl, getD_mem (by omega), ha1, hb1, hb12, rfl⟩
end Mine
namespace Mine
local macro_rules | `(tactic| walk_at "binaryOp Pow int int") => `(tactic| (k_dflt (refine pw_2 ?k1 ?k2 ?_); (case k1 => with_reducible assumption); (case k2 => with_reducible assumption)))
local macro_rules | `(tactic| walk_at "binaryOp FloorDiv int int") => `(tactic| (k_dflt (refine fd_pow ?k2 ?_); (case k2 => with_reducible assumption)))
local macro_rules | `(tactic| walk_at "binaryOp Mod int int") => `(tactic| (k_dflt (refine md_2 ?_)))
local macro_rules | `(tactic| walk_at "compareOp Eq ref ref") => `(tactic| (k_here; k_dflt (refine' ke_eq_ints ?ka ?kb ?kc ?kd ?ku ?_); (case ka => exact ⟨_, News.get (by k_asm) (by k_mem), rfl, _, rfl⟩); (case kb => exact ⟨_, News.get (by k_asm) (by k_mem), rfl, _, rfl⟩); (case kc => first | assumption | exact IntsAre.nil); (case kd => first | assumption | exact IntsAre.nil); (case ku => ktr_units)))
local macro_rules | `(tactic| walk_at "compareOp NotEq ref ref") => `(tactic| (k_here; k_dflt (refine' ke_ne_ints ?ka ?kb ?kc ?kd ?ku ?_); (case ka => exact ⟨_, News.get (by k_asm) (by k_mem), rfl, _, rfl⟩); (case kb => exact ⟨_, News.get (by k_asm) (by k_mem), rfl, _, rfl⟩); (case kc => first | assumption | exact IntsAre.nil); (case kd => first | assumption | exact IntsAre.nil); (case ku => ktr_units)))
local macro_rules | `(tactic| walk_at "eval Call") => `(tactic| (k_here; (with_reducible show wpAny _ _ (eval (Expr.Call (Expr.Name _ _) _ _ _) _) _ _ _); k_dflt (refine Call_ ?_)))
local macro_rules | `(tactic| walk_at "call ref") => `(tactic| (k_here; refine Held.out ?_))
local macro_rules | `(tactic| walk_at "eval ListComp") => `(tactic| (k_here; refine Held.out ?_))
local macro_rules | `(tactic| walk_at "CompEnd") => `(tactic| (refine Held.out ?_))
local macro_rules | `(tactic| walk_at "CompSrcT") => `(tactic| (k_here; refine Held.out ?_))
local macro_rules | `(tactic| walk_at "exec Assign cons ListComp") => `(tactic| (k_here; refine Held.out ?_))
local macro_rules | `(tactic| walk_at "pyIter ref") => `(tactic| (k_here; refine Held.out ?_))
theorem wishright_ok (w : World) (mean : ExcName → Option Value) (mg mb : Str → Option Value) (src : Addr) (a b : Int) (ta tb : Tok) (n : Nat) (bits : Nat) (tt : Tok) (hb3 : 3 ≤ bits) (hb5 : bits ≤ 5) (ha : 0 ≤ a) (hb : 0 ≤ b) (hb2 : b < 2147483647) :
  Does w mean mg mb 92 [.ref src, .int (bits : Int) tt] 4 [(src, listOf #[.int a ta, .int b tb] n)]
    (fun r led' => ∃ a' b' ta' tb', r = .bool true ∧ 0 ≤ a' ∧ 0 ≤ b' ∧ b' < 2147483647 ∧ led' = [(src, listOf #[.int a' ta', .int b' tb'] n)]) := by
  unfold Does
  w_top off
  k_fill
  intro dp un gd cn cs fa ccd cl outer A₀ base h₀ L m s Q E B F X N T hk hdp hun hret
  refine wpAny_call ?_
  k_dflt (refine' code_defG ?k1 ?k2 ?k3 ?k4 ?k5 ?kA ?kF ?kK ?k6 ?k7 ?k8 ?k9 ?kB ?_ ?c2 ?c3 ?c4 ?c5; (case kA => exact rfl); (case kF => exact rfl); (case kK => assumption); (case k1 => k_asm); (case k2 => k_asm); (case k3 => k_asm); (case k4 => k_asm); (case k5 => k_asm); (case k6 => k_is); (case k7 => k_is); (case k8 => ktr_room); (case k9 => exact BindsTo.of_eq rfl); (case c5 => decide); (case kB => exact locs rfl); (case c2 => exact rfl); (case c3 => exact rfl); (case c4 => exact rfl); k_whole)
  intro g' L' h' FG' F' N' B' X' T' kG'
  (try dsimp only)
  (try k_fold)
  have hp1 : (0 : Int) < 2 ^ (bits : Int).toNat := by
    rcases (by omega : bits = 3 ∨ bits = 4 ∨ bits = 5) with rfl | rfl | rfl <;> decide
  have hp2 : (2 : Int) ^ (bits : Int).toNat < 1000 := by
    rcases (by omega : bits = 3 ∨ bits = 4 ∨ bits = 5) with rfl | rfl | rfl <;> decide
  have hb20 : (bits : Int) ≤ 20 := by omega
  have hb0 : (0 : Int) ≤ (bits : Int) := by omega
  k_steps
  (try unfold Held)
  (with_reducible rename News _ _ _ _ => kN0)
  k_dflt (refine' Does.use (take_ok w mean mg mb src a b ta tb n _ _ ha hb hb2 (by decide) (by decide)) ?uB ?uF ?uX ?uN ?uT ?uk ?ud ?uu ?_)
  case uB => k_asm
  case uF => k_asm
  case uX => k_asm
  case uN => (refine' news_sub kN0 ?uNS; (case uNS => kcj_all))
  case uT => k_asm
  case uk => first | exact rfl | assumption
  case ud => ktr_room
  case uu => ktr_units
  intro r9 led9 h9 tk9 F9 N9 keep9 new9 out9
  have lt9 := news_lt kN0
  obtain ⟨x1, t1, a1, b1, ta1, tb1, rfl, hx1, hx11, ha1, hB1, hbb1, rfl⟩ := out9
  have M9 := news_joinL [0] kN0 N9 keep9 (by (dsimp only [drops, List.eraseIdx, List.map]); (simp only [AllOff, OffL, and_true]); (try omega))
  (try (dsimp only [drops, List.eraseIdx, List.cons_append, List.nil_append] at M9))
  (try (simp only [AllLt, and_true] at lt9))
  (try (dsimp only at lt9))
  clear keep9 new9 kN0; (try clear N9)
  k_steps
  · (try unfold Held)
    (with_reducible rename News _ _ _ _ => kN0)
    k_dflt (refine' Does.use (mask_ok w mean mg mb src a1 b1 ta1 tb1 n bits _ hb3 hb5 ha1 hB1 hbb1) ?uB ?uF ?uX ?uN ?uT ?uk ?ud ?uu ?_)
    case uB => k_asm
    case uF => k_asm
    case uX => k_asm
    case uN => (refine' news_sub kN0 ?uNS; (case uNS => kcj_all))
    case uT => k_asm
    case uk => first | exact rfl | assumption
    case ud => ktr_room
    case uu => ktr_units
    intro r9 led9 h9 tk9 F9 N9 keep9 new9 out9
    have lt9 := news_lt kN0
    obtain ⟨R, v, mm, tv, tm, k, a2, b2, ta2, tb2, rfl, hR, hm, hv, ha2, hb2, hbb2, rfl⟩ := out9
    have ne9 := fresh_ne kN0 (new9 (R, _) List.mem_cons_self (off1 hR))
    (simp only [AllNe, and_true] at ne9)
    have M9 := news_joinL [0] kN0 N9 keep9 (by (dsimp only [drops, List.eraseIdx, List.map]); (simp only [AllOff, OffL, and_true]); (try omega))
    (try (dsimp only [drops, List.eraseIdx, List.cons_append, List.nil_append] at M9))
    (try (simp only [AllLt, and_true] at lt9))
    (try (dsimp only at lt9))
    clear keep9 new9 kN0; (try clear N9)
    k_steps
    (try unfold Held)
    (with_reducible rename News _ _ _ _ => kN0)
    k_dflt (refine' Does.use (numbers_ok w mean mg mb R v mm tv tm k bits _ hb3 hb5) ?uB ?uF ?uX ?uN ?uT ?uk ?ud ?uu ?_)
    case uB => k_asm
    case uF => k_asm
    case uX => k_asm
    case uN => (refine' news_sub kN0 ?uNS; (case uNS => kcj_all))
    case uT => k_asm
    case uk => first | exact rfl | assumption
    case ud => ktr_room
    case uu => ktr_units
    intro r9 led9 h9 tk9 F9 N9 keep9 new9 out9
    have lt9 := news_lt kN0
    obtain ⟨D₁, y₁, k₁, rfl, hd1, hy1, rfl⟩ := out9
    have ne9 := fresh_ne kN0 (new9 (D₁, _) List.mem_cons_self (off1 hd1))
    (simp only [AllNe, and_true] at ne9)
    have M9 := news_pure (new := [(D₁, _)]) kN0 (by kcj_all) N9 keep9
    (try (simp only [List.cons_append, List.nil_append] at M9))
    (try (simp only [AllLt, and_true] at lt9))
    (try (dsimp only at lt9))
    clear keep9 new9 kN0; (try clear N9)
    rw [nums_is hb3 hb5 hm hv] at hy1
    k_steps
    (try unfold Held)
    (with_reducible rename News _ _ _ _ => kN0)
    k_dflt (refine' Does.use (wish_mask w mean mg mb _ (v : Int) (mm : Int) _ _ _ _ bits _ hb3 hb5) ?uB ?uF ?uX ?uN ?uT ?uk ?ud ?uu ?_)
    case uB => k_asm
    case uF => k_asm
    case uX => k_asm
    case uN => (refine' news_sub kN0 ?uNS; (case uNS => kcj_all))
    case uT => k_asm
    case uk => first | exact rfl | assumption
    case ud => ktr_room
    case uu => ktr_units
    intro r9 led9 h9 tk9 F9 N9 keep9 new9 out9
    have lt9 := news_lt kN0
    obtain ⟨D₂, T₂, s1, s2, k₂, k₃, rfl, hd2, ht2, hdt, rfl⟩ := out9
    have M9 := news_pure (new := [(D₂, _), (T₂, _)]) kN0 (by kcj_all) N9 keep9
    (try (simp only [List.cons_append, List.nil_append] at M9))
    (try (simp only [AllLt, and_true] at lt9))
    (try (dsimp only at lt9))
    clear keep9 new9 kN0; (try clear N9)
    k_steps
    (try unfold Held)
    (with_reducible rename News _ _ _ _ => kN0)
    k_dflt (refine' Does.use (ends_mask w mean mg mb _ (v : Int) (mm : Int) _ _ _ _ bits _ hb3 hb5) ?uB ?uF ?uX ?uN ?uT ?uk ?ud ?uu ?_)
    case uB => k_asm
    case uF => k_asm
    case uX => k_asm
    case uN => (refine' news_sub kN0 ?uNS; (case uNS => kcj_all))
    case uT => k_asm
    case uk => first | exact rfl | assumption
    case ud => ktr_room
    case uu => ktr_units
    intro r9 led9 h9 tk9 F9 N9 keep9 new9 out9
    have lt9 := news_lt kN0
    obtain ⟨D₃, s3, s4, k₄, rfl, hd3, rfl⟩ := out9
    have M9 := news_pure (new := [(D₃, _)]) kN0 (by kcj_all) N9 keep9
    (try (simp only [List.cons_append, List.nil_append] at M9))
    (try (simp only [AllLt, and_true] at lt9))
    (try (dsimp only at lt9))
    clear keep9 new9 kN0; (try clear N9)
    obtain ⟨e1, e2, e3, e4⟩ := ends_is hb3 hb5 hm hv
    generalize nums v mm bits = N1 at hy1 e1 e2 e3 e4
    k_steps
    rw [ends_eq hm e1 e3 e4]
    exact hret _ _ _ _ (by assumption) (news_sub (by assumption) (by kcj_all)) (keep_of (by assumption) (by assumption)) (fresh_of (by assumption) (news_sub (by assumption) (by kcj_all))) ⟨_, _, _, _, rfl, ha2, hb2, hbb2, rfl⟩
  · have hq1 : (0 : Int) < 3 := by decide
    (try unfold Held)
    (with_reducible rename News _ _ _ _ => kN0)
    k_dflt (refine' Does.use (take_ok w mean mg mb src a1 b1 ta1 tb1 n _ _ ha1 hB1 hbb1 hp1 hp2) ?uB ?uF ?uX ?uN ?uT ?uk ?ud ?uu ?_)
    case uB => k_asm
    case uF => k_asm
    case uX => k_asm
    case uN => (refine' news_sub kN0 ?uNS; (case uNS => kcj_all))
    case uT => k_asm
    case uk => first | exact rfl | assumption
    case ud => ktr_room
    case uu => ktr_units
    intro r9 led9 h9 tk9 F9 N9 keep9 new9 out9
    have lt9 := news_lt kN0
    obtain ⟨x2, t2, a2, b2, ta2, tb2, rfl, hx2, hx21, ha2, hB2, hbb2, rfl⟩ := out9
    have M9 := news_joinL [0] kN0 N9 keep9 (by (dsimp only [drops, List.eraseIdx, List.map]); (simp only [AllOff, OffL, and_true]); (try omega))
    (try (dsimp only [drops, List.eraseIdx, List.cons_append, List.nil_append] at M9))
    (try (simp only [AllLt, and_true] at lt9))
    (try (dsimp only at lt9))
    clear keep9 new9 kN0; (try clear N9)
    k_steps
    (try unfold Held)
    (with_reducible rename News _ _ _ _ => kN0)
    k_dflt (refine' Does.use (one_ok w mean mg mb _ [.int 0 _, .int x2 t2] [0, x2] _ src a2 b2 ta2 tb2 n (.cons _ _ (.cons _ _ .nil)) (Nat.le_of_ble_eq_true rfl) (Nat.le_of_ble_eq_true rfl) ha2 hB2 hbb2 (by omega)) ?uB ?uF ?uX ?uN ?uT ?uk ?ud ?uu ?_)
    case uB => k_asm
    case uF => k_asm
    case uX => k_asm
    case uN => (refine' news_sub kN0 ?uNS; (case uNS => kcj_all))
    case uT => k_asm
    case uk => first | exact rfl | assumption
    case ud => ktr_room
    case uu => ktr_units
    intro r9 led9 h9 tk9 F9 N9 keep9 new9 out9
    have lt9 := news_lt kN0
    obtain ⟨y1, s1, a3, b3, ta3, tb3, rfl, hy1, ha3, hB3, hbb3, rfl⟩ := out9
    have M9 := news_joinL [0, 0] kN0 N9 keep9 (by (dsimp only [drops, List.eraseIdx, List.map]); (simp only [AllOff, OffL, and_true]); (try omega))
    (try (dsimp only [drops, List.eraseIdx, List.cons_append, List.nil_append] at M9))
    (try (simp only [AllLt, and_true] at lt9))
    (try (dsimp only at lt9))
    clear keep9 new9 kN0; (try clear N9)
    have hlo := one_of2 hy1 hx2 hx21
    obtain ⟨lo, rfl⟩ := Int.eq_ofNat_of_zero_le hlo.1
    k_steps
    (try unfold Held)
    (with_reducible rename News _ _ _ _ => kN0)
    k_dflt (refine' Does.use (take_ok w mean mg mb src a3 b3 ta3 tb3 n _ _ ha3 hB3 hbb3 (by omega) (by omega)) ?uB ?uF ?uX ?uN ?uT ?uk ?ud ?uu ?_)
    case uB => k_asm
    case uF => k_asm
    case uX => k_asm
    case uN => (refine' news_sub kN0 ?uNS; (case uNS => kcj_all))
    case uT => k_asm
    case uk => first | exact rfl | assumption
    case ud => ktr_room
    case uu => ktr_units
    intro r9 led9 h9 tk9 F9 N9 keep9 new9 out9
    have lt9 := news_lt kN0
    obtain ⟨x4, t4, a4, b4, ta4, tb4, rfl, hx4, hx41, ha4, hB4, hbb4, rfl⟩ := out9
    have M9 := news_joinL [1] kN0 N9 keep9 (by (dsimp only [drops, List.eraseIdx, List.map]); (simp only [AllOff, OffL, and_true]); (try omega))
    (try (dsimp only [drops, List.eraseIdx, List.cons_append, List.nil_append] at M9))
    (try (simp only [AllLt, and_true] at lt9))
    (try (dsimp only at lt9))
    clear keep9 new9 kN0; (try clear N9)
    k_steps
    (try unfold Held)
    (with_reducible rename News _ _ _ _ => kN0)
    k_dflt (refine' Does.use (one_ok w mean mg mb _ [.int (lo : Int) _, .int (2 ^ (bits : Int).toNat - 1) _, .int ((lo : Int) + x4) _] [(lo : Int), 2 ^ (bits : Int).toNat - 1, (lo : Int) + x4] _ src a4 b4 ta4 tb4 n (.cons _ _ (.cons _ _ (.cons _ _ .nil))) (Nat.le_of_ble_eq_true rfl) (Nat.le_of_ble_eq_true rfl) ha4 hB4 hbb4 (by omega)) ?uB ?uF ?uX ?uN ?uT ?uk ?ud ?uu ?_)
    case uB => k_asm
    case uF => k_asm
    case uX => k_asm
    case uN => (refine' news_sub kN0 ?uNS; (case uNS => kcj_all))
    case uT => k_asm
    case uk => first | exact rfl | assumption
    case ud => ktr_room
    case uu => ktr_units
    intro r9 led9 h9 tk9 F9 N9 keep9 new9 out9
    have lt9 := news_lt kN0
    obtain ⟨y2, s2, a5, b5, ta5, tb5, rfl, hy2, ha5, hB5, hbb5, rfl⟩ := out9
    have M9 := news_joinL [0, 0] kN0 N9 keep9 (by (dsimp only [drops, List.eraseIdx, List.map]); (simp only [AllOff, OffL, and_true]); (try omega))
    (try (dsimp only [drops, List.eraseIdx, List.cons_append, List.nil_append] at M9))
    (try (simp only [AllLt, and_true] at lt9))
    (try (dsimp only at lt9))
    clear keep9 new9 kN0; (try clear N9)
    have hhi := one_of3 hy2 (by omega) hlo.2 hx4 hx41
    obtain ⟨hi, rfl⟩ := Int.eq_ofNat_of_zero_le (Int.le_trans hlo.1 hhi.1)
    have hle : lo ≤ hi := Int.ofNat_le.mp hhi.1
    have hlt := lt_nat hhi.2
    k_steps
    (try unfold Held)
    (with_reducible rename News _ _ _ _ => kN0)
    k_dflt (refine' Does.use (wish_range w mean mg mb _ lo hi _ _ _ _ bits _ hb3 hb5 hle hlt) ?uB ?uF ?uX ?uN ?uT ?uk ?ud ?uu ?_)
    case uB => k_asm
    case uF => k_asm
    case uX => k_asm
    case uN => (refine' news_sub kN0 ?uNS; (case uNS => kcj_all))
    case uT => k_asm
    case uk => first | exact rfl | assumption
    case ud => ktr_room
    case uu => ktr_units
    intro r9 led9 h9 tk9 F9 N9 keep9 new9 out9
    have lt9 := news_lt kN0
    obtain ⟨D, vs, k, ts, rs, rfl, hD, hW, hDW, hR, hg, hto, hl, rfl⟩ := out9
    have M9 := news_joinL [0] kN0 N9 keep9 (by (dsimp only [drops, List.eraseIdx, List.map]); (simp only [AllOff, OffL, and_true]); (try omega))
    (try (dsimp only [drops, List.eraseIdx, List.cons_append, List.nil_append] at M9))
    (try (simp only [AllLt, and_true] at lt9))
    (try (dsimp only at lt9))
    clear keep9 new9 kN0; (try clear N9)
    k_steps
    unfold Held
    k_dflt (refine' iter_listT (its := vs.toArray) (k := k) [] (fun i T nw => ∃ A ys k2, T = [(Str.ofString "numbers", Value.ref A)] ∧ IntsAre ys (told bits (rs.take i)) ∧ nw = (A, listOf ys.toArray k2) :: (D, listOf vs.toArray k) :: (src, listOf #[.int a5 ta5, .int b5 tb5] n) :: ts) ?ij rfl (by assumption) (news_sub M9 ?isub) ?il ?it ?id)
    case ij => exact ⟨[(Str.ofString "numbers", _)], ⟨_, [], 0, rfl, .nil, rfl⟩, rfl, trivial⟩
    case isub =>
      intro p hp
      simp only [List.mem_cons, List.mem_append, List.not_mem_nil, or_false] at hp ⊢
      rcases hp with hp | hp | hp | hp
      · simp only [hp, true_or, or_true]
      · exact Or.inl hp
      · simp only [hp, true_or, or_true]
      · exact Or.inr (Or.inl hp)
    case il => exact List.mem_cons_of_mem _ List.mem_cons_self
    case it =>
      intro i v T u nw h8 tk8 I oI ol hi ⟨A, ys, k2, hT, hys, hnw⟩ hne hIl F8 N8
      subst hT hnw
      obtain ⟨t, v', m', tv, tm, n', rfl, hrs, hmem⟩ := hR.at i v (by simpa using hi)
      have hgd := hg _ (List.mem_of_getElem? hrs)
      simp only [List.cons_append, List.nil_append] at N8
      k_steps
      (try unfold Held)
      (with_reducible rename News _ _ _ _ => kN0)
      k_dflt (refine' Does.use (numbers_ok w mean mg mb t v' m' tv tm n' bits _ hb3 hb5) ?uB ?uF ?uX ?uN ?uT ?uk ?ud ?uu ?_)
      case uB => k_asm
      case uF => k_asm
      case uX => k_asm
      case uN => (refine' news_sub kN0 ?uNS; (case uNS => intro p hp; rw [List.mem_singleton.mp hp]; repeat (first | exact hmem | apply List.mem_cons_of_mem)))
      case uT => k_asm
      case uk => first | exact rfl | assumption
      case ud => ktr_room
      case uu => ktr_units
      intro r9 led9 h9 tk9 F9 N9 keep9 new9 out9
      have lt9 := news_lt kN0
      obtain ⟨D₄, y₄, k₄, rfl, hd4, hy4, rfl⟩ := out9
      have M9 := news_pure (new := [(D₄, _)]) kN0 (by intro p hp; rw [List.mem_singleton.mp hp]; repeat (first | exact hmem | apply List.mem_cons_of_mem)) N9 keep9
      (try (simp only [List.cons_append, List.nil_append] at M9))
      (try (simp only [AllLt, and_true] at lt9))
      (try (dsimp only at lt9))
      clear keep9 new9 kN0; (try clear N9)
      rw [nums_is hb3 hb5 hgd.1 hgd.2] at hy4
      k_steps
      have hl1 := told_len hb5 (rs.take i)
      have hl2 : (rs.take i).length ≤ 32 := by rw [List.length_take]; omega
      have hl3 := Nat.le_trans (nums_len v' m' bits) (Nat.pow_le_pow_right (by decide) hb5 : 2 ^ bits ≤ 2 ^ 5)
      have e31 : told bits (rs.take (i + 1)) = told bits (rs.take i) ++ nums v' m' bits := by
        rw [List.take_add_one, hrs]; exact told_snoc bits _ _ _
      k_dflt (refine' add_listsK ?aF ?aN ?al ?ab hys hy4 ?az ?_)
      case aF => k_asm
      case aN => k_asm
      case al => k_mem
      case ab => k_mem
      case az => rw [sizeLine_eq]; dsimp only; omega
      intro D5 h5 F5 N5 lt5 i5
      have lt5 := allLt_of lt5
      simp only [AllLt, and_true] at lt5
      k_steps
      refine JEnd.intro (by assumption) (news' := (D5, _) :: (D, _) :: (src, _) :: ts) (news_sub (by assumption) ?js) ?jn ⟨[(Str.ofString "numbers", Value.ref D5)], ⟨D5, _, 0, rfl, e31 ▸ i5, rfl⟩, ⟨rfl, trivial⟩, ?jy⟩
      · intro p hp
        simp only [List.cons_append, List.nil_append, List.mem_cons] at hp ⊢
        rcases hp with h | h | h | h | h | h
        · exact Or.inr (Or.inr (Or.inl h))
        · exact Or.inr (Or.inr (Or.inr (Or.inl h)))
        · exact Or.inl h
        · exact Or.inr (Or.inr (Or.inr (Or.inr (Or.inr (Or.inl h)))))
        · exact Or.inr (Or.inr (Or.inr (Or.inr (Or.inr (Or.inr (Or.inl h))))))
        · exact Or.inr (Or.inr (Or.inr (Or.inr (Or.inr (Or.inr (Or.inr h))))))
      · intro p hp
        rcases List.mem_cons.mp hp with rfl | hp
        · exact Nat.ne_of_gt lt5.2.1
        · exact hne p (List.mem_cons_of_mem _ hp)
      · intro y y1 y2 y3
        have e1 : y ≠ Str.ofString "numbers" := lookup_none_ne y2 List.mem_cons_self
        simp only [if_neg e1, if_neg y1]
        refine (mapT_none y2 y3 ?_).trans ?_
        · rfl
        · simp only [if_neg e1]
    case id =>
      intro T u nw h8 tk8 ⟨A, ys, k2, hT, hys, hnw⟩ F8 N8
      subst hT hnw
      rw [List.size_toArray, hR.length, List.take_length, hto] at hys
      k_steps
      k_dflt (refine' list_rangeK (lo := lo) (n := hi + 1 - lo) rfl ?aF ?aN ?ar ?as ?an ?al ?_)
      case aF => k_asm
      case aN => k_asm
      case ar => assumption
      case as => exact small_one (by omega) (by omega) (by omega) (by omega)
      case an => rw [rangeSize_nat]; congr 1; omega
      case al => omega
      intro D6 h6 tk6 ys6 k6 F6 N6 lt6 i6
      have lt6 := allLt_of lt6
      simp only [AllLt, and_true] at lt6
      k_steps
      (try unfold Held)
      (with_reducible rename News _ _ _ _ => kN0)
      k_dflt (refine' Does.use (ends_range w mean mg mb _ (lo : Int) (hi : Int) _ _ _ _ bits _ hb3 hb5) ?uB ?uF ?uX ?uN ?uT ?uk ?ud ?uu ?_)
      case uB => k_asm
      case uF => k_asm
      case uX => k_asm
      case uN => (refine' news_sub kN0 ?uNS; (case uNS => kcj_all))
      case uT => k_asm
      case uk => first | exact rfl | assumption
      case ud => ktr_room
      case uu => ktr_units
      intro r9 led9 h9 tk9 F9 N9 keep9 new9 out9
      have lt9 := news_lt kN0
      obtain ⟨D₇, s7, s8, k₇, rfl, hd7, rfl⟩ := out9
      have M9 := news_pure (new := [(D₇, _)]) kN0 (by kcj_all) N9 keep9
      (try (simp only [List.cons_append, List.nil_append] at M9))
      (try (simp only [AllLt, and_true] at lt9))
      (try (dsimp only at lt9))
      clear keep9 new9 kN0; (try clear N9)
      k_steps
      exact hret _ _ _ _ (by assumption) (news_sub (by assumption) (by kcj_all)) (keep_of (by assumption) (by assumption)) (fresh_of (by assumption) (news_sub (by assumption) (by kcj_all))) ⟨_, _, _, _, rfl, ha5, hB5, hbb5, rfl⟩
end Mine
namespace Mine
open PyProof.Rows.LCt PyProof.Rows.LCg in
section
variable {prog : Program} {w : World} {A : Around} {E : Value → Shared → Prop} {s : Shared} {h₀ : Heap} {L : Addr} {m : Str → Option Value} {env : Env}
theorem newEnv_oneCell {M : Model} {scope : Scope} {globals : Addr} {cl : List (Str × Addr)} {qual : Str} {x : Str} {Q : Env → Shared → Prop}
    (hcells : ∀ n, cellsFrom n scope.names cl = (x, n) :: cl) (hpush : ∀ h, pushCells h scope.names = h.push { cls := .type "cell", data := .cell none })
    (hQ : Q { scope := scope, locals := s.heap.objs.size, globals := globals, cells := (x, s.heap.objs.size + 1) :: cl, qual := qual, func := none, code := env.code, frame := env.frame, builtins := env.builtins } { s with heap := (s.heap.push { cls := .type "dict", data := .dict #[] }).push { cls := .type "cell", data := .cell none } }) :
    wpAny M A (newFunctionEnv scope globals cl [] qual none .none (some env)) Q E s := by
  simp only [newFunctionEnv, Option.isSome_some, if_true]
  refine wpAny_bind (wpAny_alloc ?_)
  refine wpAny_bind (wpAny_layCells _ (fun name kind cells => by cases hkc : kind == NameKind.cell <;> simp [hkc]) _ _ _ _ ?_)
  rw [show ({ s with heap := s.heap.push { cls := .type "dict", data := .dict #[] } } : Shared).heap.objs.size = s.heap.objs.size + 1 from Heap.size_push .., hcells, hpush]
  rw [List.forIn_nil]
  exact wpAny_bind (wpAny_pure (wpAny_pure hQ))
def EltPost (h₀ : Heap) (L : Addr) (m : Str → Option Value) (led : List (Addr × Obj)) (s : Shared) (z : Int) (v : Value) (s'' : Shared) : Prop :=
  ∃ tt h' tk', v = .int z tt ∧ s'' = { s with heap := h', toks := tk' } ∧ Fr h₀ L h' m ∧ News h₀ L h' led
theorem ListComp_cellT {elt iter : Expr} {x : Str} {px : Pos} {scope : Scope} {cl : List (Str × Addr)} {pos : Pos} {Q : Value → Shared → Prop} {t : Addr} {its : Array Value} {k : Nat} {news : List (Addr × Obj)} {xs : List Int} (g : Int → Int)
    (hh : A.handled = none) (F : Fr h₀ L s.heap m) (N : News h₀ L s.heap news) (ht : (t, ({ cls := .type "tuple", data := .seq its k } : Obj)) ∈ news) (hi : IntsAre its.toList xs) (hsz : its.size ≤ sizeLine)
    (hclos : closureFor scope env = pure cl) (hkind : scope.kind = .function)
    (hnames : ∀ y ∈ scope.names, y.2 = .local → scope.names.lookup y.1 = some .local)
    (hx : (relabel scope env).names.lookup x = some .cell)
    (hcells : ∀ n, cellsFrom n scope.names cl = (x, n) :: cl) (hpush : ∀ h, pushCells h scope.names = h.push { cls := .type "cell", data := .cell none })
    (hit : ∀ Q : Value → Shared → Prop, Q (.ref t) s → wpAny (model prog w) A (eval iter env) Q E s)
    (helt : ∀ X oX I oI C oC D ys a ta h tk (E' : Value → Shared → Prop), a ∈ xs → oX.data = .cell (some (.int a ta)) → Fr h₀ L h m → News h₀ L h ((X, oX) :: (I, oI) :: (C, oC) :: (D, lst ys) :: news) →
      wpAny (model prog w) A (eval elt (compEnvC scope ((x, X) :: cl) C env)) (EltPost h₀ L m ((X, oX) :: (I, oI) :: (C, oC) :: (D, lst ys) :: news) s (g a)) E' { s with heap := h, toks := tk })
    (hfin : ∀ D ys h' tk, Fr h₀ L h' m → News h₀ L h' ((D, lst ys) :: news) → (∀ p ∈ news, p.1 < D) → IntsAre ys (xs.map g) → Q (.ref D) { s with heap := h', toks := tk })
    (hs : ∀ v, foldedSetIterable iter env v = pure v := by intro _; rfl) :
    wpAny (model prog w) A (eval (.ListComp elt [⟨.Name x px, iter, [], 0⟩] scope pos) env) Q E s := by
  have Ht : s.heap.IsTuple t its := ⟨_, (N _ ht).1, rfl, _, rfl⟩
  rw [eval_ListComp]
  refine wpAny_comprehension_free (use := none) rfl hs hclos hkind hnames (hit _ (wpAny_pyIter_tuple Ht ?_))
  generalize hH1 : s.heap.push { cls := .type "tuple_iterator", data := .fields #[.ref t, .int 0 0] } = H1
  have sz1 : H1.objs.size = s.heap.objs.size + 1 := by rw [← hH1, Heap.size_push]
  have up1 : ∀ b o, s.heap.get? b = some o → H1.get? b = some o := fun b o e => hH1 ▸ Heap.get?_push_of_some _ e
  refine wpAny_newObj_type (newEnv_oneCell hcells hpush ?_)
  dsimp only
  generalize hH2 : H1.push { cls := .type "list", dict := none, data := .seq ([] : List Value).toArray } = H2
  have sz2 : H2.objs.size = s.heap.objs.size + 2 := by rw [← hH2, Heap.size_push, sz1]
  have up2 : ∀ b o, H1.get? b = some o → H2.get? b = some o := fun b o e => hH2 ▸ Heap.get?_push_of_some _ e
  generalize hH3 : H2.push { cls := .type "dict", data := .dict #[] } = H3
  have sz3 : H3.objs.size = s.heap.objs.size + 3 := by rw [← hH3, Heap.size_push, sz2]
  have up3 : ∀ b o, H2.get? b = some o → H3.get? b = some o := fun b o e => hH3 ▸ Heap.get?_push_of_some _ e
  generalize hH4 : H3.push { cls := .type "cell", data := .cell none } = H4
  have up4 : ∀ b o, H3.get? b = some o → H4.get? b = some o := fun b o e => hH4 ▸ Heap.get?_push_of_some _ e
  have up : ∀ b o, s.heap.get? b = some o → H4.get? b = some o := fun b o e => up4 b o (up3 b o (up2 b o (up1 b o e)))
  generalize hI : s.heap.objs.size = I
  generalize hD : H1.objs.size = D
  generalize hC : H2.objs.size = C
  obtain ⟨X, hX⟩ : ∃ X, X = C + 1 := ⟨_, rfl⟩
  rw [← hX]
  have gI : H4.IsTupleIter I t 0 := ⟨_, up4 _ _ (up3 _ _ (up2 _ _ (hH1 ▸ hI ▸ Heap.get?_push_size _ rfl))), rfl, rfl⟩
  have gD : H4.get? D = some (lst []) := up4 _ _ (up3 _ _ (hH2 ▸ hD ▸ Heap.get?_push_size _ rfl))
  have gC : H4.Ns C (fun _ => none) := by
    have e : H3.Ns C (fun _ => none) := by rw [← hH3, ← hC]; exact Heap.Ns.new H2 (.type "dict")
    exact e.keeps up4
  have gX : H4.get? X = some { cls := .type "cell", data := .cell none } := by
    have e : X = H3.objs.size := by rw [hX, ← hC, sz3, sz2]
    rw [e, ← hH4]; exact Heap.get?_push_size _ rfl
  obtain ⟨oC, hoC, nC⟩ := ns_obj gC
  have old : ∀ b o, s.heap.get? b = some o → @Ne Nat b I ∧ @Ne Nat b D ∧ @Ne Nat b C ∧ @Ne Nat b X := fun b o e => by
    have : @LT.lt Nat _ b s.heap.objs.size := Heap.lt_size e
    refine ⟨?_, ?_, ?_, ?_⟩ <;> refine @Nat.ne_of_lt b _ ?_ <;> omega
  have eI : (I : Nat) = s.heap.objs.size := hI.symm
  have eD : (D : Nat) = s.heap.objs.size + 1 := by rw [← hD, sz1]
  have eC : (C : Nat) = s.heap.objs.size + 2 := by rw [← hC, sz2]
  have eX : (X : Nat) = s.heap.objs.size + 3 := by rw [hX, eC]
  have fresh₀ : ∀ a : Nat, s.heap.objs.size ≤ a → h₀.get? a = none := fun a ha => by
    cases e : h₀.get? a with
    | none => rfl
    | some o' => exact absurd (Heap.lt_size (F.keep a o' e)) (Nat.not_lt.mpr ha)
  have hLs : @LT.lt Nat _ L s.heap.objs.size := F.ns.lt
  have I0 := fresh₀ I (Nat.le_of_eq eI.symm)
  have D0 := fresh₀ D (by omega)
  have C0 := fresh₀ C (by omega)
  have X0 := fresh₀ X (by omega)
  have LI : @Ne Nat I L := Nat.ne_of_gt (by omega)
  have LD : @Ne Nat D L := Nat.ne_of_gt (by omega)
  have LC : @Ne Nat C L := Nat.ne_of_gt (by omega)
  have LX : @Ne Nat X L := Nat.ne_of_gt (by omega)
  have ID : @Ne Nat I D := Nat.ne_of_lt (by omega)
  have IC : @Ne Nat I C := Nat.ne_of_lt (by omega)
  have IX : @Ne Nat I X := Nat.ne_of_lt (by omega)
  have DC : @Ne Nat D C := Nat.ne_of_lt (by omega)
  have DX : @Ne Nat D X := Nat.ne_of_lt (by omega)
  have CX : @Ne Nat C X := Nat.ne_of_lt (by omega)
  have tO := old _ _ (N _ ht).1
  have hlen : its.size = xs.length := by rw [← hi.length, Array.length_toList]
  have loop : ∀ s₃ : Shared, (∃ tk, s₃ = { s with heap := H4, toks := tk }) → codeAny (model prog w) A (.compLoop (.ListComp elt [⟨.Name x px, iter, [], 0⟩] scope pos) 0 (.ref I) (.ref D) (compEnvC scope ((x, X) :: cl) C env))
      (compPost (model prog w) A E none Q (.ref D) C) s₃ := by
    rintro s₃ ⟨tk₃, rfl⟩
    refine codeAny_compLoop_tests
      (fun k s' => ∃ h' tk i ys oX vX, s' = { s with heap := h', toks := tk } ∧ i ≤ its.size ∧ k = its.size + 1 - i ∧ h'.IsTupleIter I t i ∧ Fr h₀ L h' m ∧ News h₀ L h' ((X, oX) :: (C, oC) :: (D, lst ys) :: news) ∧ oX.data = .cell vX ∧ ys.length = i ∧ IntsAre ys ((xs.take i).map g))
      ?_ (its.size + 1) ⟨H4, tk₃, 0, [], { cls := .type "cell", data := .cell none }, none, rfl, Nat.zero_le _, rfl, gI, F.keeps up, ?_, rfl, rfl, .nil⟩
    · rintro k' s' ⟨h', tk, i, ys, oX, vX, rfl, hin, rfl, hit', F', N', dX, hyl, hys⟩
      have zX := N' _ List.mem_cons_self
      have zC := N' _ (List.mem_cons_of_mem _ List.mem_cons_self)
      have zD := N' _ (List.mem_cons_of_mem _ (List.mem_cons_of_mem _ List.mem_cons_self))
      have zn : News h₀ L h' news := fun p hp => N' p (List.mem_cons_of_mem _ (List.mem_cons_of_mem _ (List.mem_cons_of_mem _ hp)))
      have Ht' : h'.IsTuple t its := ⟨_, (zn _ ht).1, rfl, _, rfl⟩
      cases hv : its[i]? with
      | none =>
        have hge : its.size ≤ i := by simpa using hv
        obtain rfl : i = its.size := Nat.le_antisymm hin hge
        refine wpAny_pyNext_tuple_end hh hit' Ht' hv fun h₂ he₂ => ?_
        rw [hlen, List.take_length] at hys
        refine ⟨_, nC.ns (he₂ _ _ (Ne.symm IC) zC.1), fun h'' hs'' => hfin D ys h'' _ ?_ (fun p hp => ?_) (fun p hp => ?_) hys⟩
        · have F2 : Fr h₀ L h₂ m := ⟨F'.ns.extBut he₂ (Ne.symm LI), fun b o e => he₂ b o (fun q => by rw [q, I0] at e; cases e) (F'.keep b o e), F'.above⟩
          exact F2.change hs'' LC C0
        · rcases List.mem_cons.mp hp with rfl | hp
          · exact ⟨hs''.extBut _ _ DC (he₂ _ _ (Ne.symm ID) zD.1), LD, D0⟩
          · have o := old _ _ (N p hp).1
            exact ⟨hs''.extBut _ _ o.2.2.1 (he₂ _ _ o.1 (zn p hp).1), (zn p hp).2⟩
        · have : @LT.lt Nat _ p.1 s.heap.objs.size := Heap.lt_size (N p hp).1
          show @LT.lt Nat _ p.1 D
          omega
      | some v =>
        have hlt : i < its.size := (Array.getElem?_eq_some_iff.mp hv).1
        obtain ⟨a, ta, rfl, hb⟩ := IntsAre.at hi i v (by rw [Array.getElem?_toList]; exact hv)
        refine wpAny_pyNext_tuple_item hit' Ht' hv fun h₂ hit₂ hs₂ => ?_
        refine wpAny_assign_Name (wpAny_storeName_cell (c := X) hkind hx (by simp [compEnvC, List.lookup_cons]) ⟨oX, hs₂.extBut _ _ (Ne.symm IX) zX.1, dX⟩ fun h₃ hv₃ hs₃ => ?_)
        obtain ⟨oX', gX', dX'⟩ := hv₃
        rw [List.forIn_nil]
        refine wpAny_pure ?_
        rw [if_pos rfl]
        have F2 : Fr h₀ L h₂ m := F'.change hs₂ LI I0
        have F3 : Fr h₀ L h₃ m := F2.change hs₃ LX X0
        obtain ⟨oI, gI', cI, dI⟩ := hit₂
        have N3 : News h₀ L h₃ ((X, oX') :: (I, oI) :: (C, oC) :: (D, lst ys) :: news) := fun p hp => by
          rcases List.mem_cons.mp hp with rfl | hp
          · exact ⟨gX', LX, X0⟩
          · rcases List.mem_cons.mp hp with rfl | hp
            · exact ⟨hs₃.extBut _ _ IX gI', LI, I0⟩
            · rcases List.mem_cons.mp hp with rfl | hp
              · exact ⟨hs₃.extBut _ _ CX (hs₂.extBut _ _ (Ne.symm IC) zC.1), LC, C0⟩
              · rcases List.mem_cons.mp hp with rfl | hp
                · exact ⟨hs₃.extBut _ _ DX (hs₂.extBut _ _ (Ne.symm ID) zD.1), LD, D0⟩
                · have o := old _ _ (N p hp).1
                  exact ⟨hs₃.extBut _ _ o.2.2.2 (hs₂.extBut _ _ o.1 (zn p hp).1), (zn p hp).2⟩
        refine wpAny_mono (helt X oX' I oI C oC D ys a ta h₃ _ _ (List.mem_of_getElem? hb) dX' F3 N3) (fun v' s₄ h₄ => ?_) fun _ _ e => e
        obtain ⟨tt, h₄, tk₄, rfl, rfl, F4, N4⟩ := h₄
        have yX := N4 _ List.mem_cons_self
        have yI := N4 _ (List.mem_cons_of_mem _ List.mem_cons_self)
        have yC := N4 _ (List.mem_cons_of_mem _ (List.mem_cons_of_mem _ List.mem_cons_self))
        have yD := N4 _ (List.mem_cons_of_mem _ (List.mem_cons_of_mem _ (List.mem_cons_of_mem _ List.mem_cons_self)))
        have yn : News h₀ L h₄ news := fun p hp => N4 p (List.mem_cons_of_mem _ (List.mem_cons_of_mem _ (List.mem_cons_of_mem _ (List.mem_cons_of_mem _ hp))))
        refine append_at (hsz := by show ys.toArray.size ≤ sizeLine; rw [List.size_toArray]; omega) yD.1 fun h₅ hs₅ hD₅ => ?_
        refine ⟨its.size + 1 - (i + 1), by omega, h₅, tk₄, i + 1, ys ++ [.int (g a) tt], oX', _, rfl, hlt, rfl, ⟨oI, hs₅.extBut _ _ ID yI.1, cI, dI⟩, F4.change hs₅ LD D0, fun p hp => ?_, dX', by rw [List.length_append, List.length_singleton, hyl], ?_⟩
        · rcases List.mem_cons.mp hp with rfl | hp
          · exact ⟨hs₅.extBut _ _ (Ne.symm DX) yX.1, LX, X0⟩
          · rcases List.mem_cons.mp hp with rfl | hp
            · exact ⟨hs₅.extBut _ _ (Ne.symm DC) yC.1, LC, C0⟩
            · rcases List.mem_cons.mp hp with rfl | hp
              · exact ⟨hD₅.trans (congrArg some (lst_snoc ys _)), LD, D0⟩
              · have o := old _ _ (N p hp).1
                exact ⟨hs₅.extBut _ _ o.2.1 (yn p hp).1, (yn p hp).2⟩
        · rw [List.take_add_one, hb, Option.toList_some, List.map_append]
          exact IntsAre.append hys (.cons _ _ .nil)
    · intro p hp
      rcases List.mem_cons.mp hp with rfl | hp
      · exact ⟨gX, LX, X0⟩
      · rcases List.mem_cons.mp hp with rfl | hp
        · exact ⟨hoC, LC, C0⟩
        · rcases List.mem_cons.mp hp with rfl | hp
          · exact ⟨gD, LD, D0⟩
          · exact ⟨up _ _ (N p hp).1, (N p hp).2⟩
  exact codeAny_compStart_list (loop _ ⟨_, rfl⟩) (wpAny_pyIter_tupleiter gI (loop _ ⟨_, rfl⟩))
end
end Mine
namespace Mine
def kfold (x : Int) (l : List Int) (k : Int) : List Int := if (x.fdiv (2 ^ k.toNat)).fmod 2 = 1 then l ++ [2 ^ k.toNat] else l
theorem kfold_grows (x : Int) : KPfGrows (kfold x) := by
  intro l k
  unfold kfold
  split
  · exact Nat.le_of_eq (List.length_append)
  · exact Nat.le_succ _
def ufold (x : Int) (l : List Int) (u : Int) : List Int := if (x.fdiv u).fmod 2 = 1 then l ++ [u] else l
theorem ufold_grows (x : Int) : KPfGrows (ufold x) := by
  intro l k
  unfold ufold
  split
  · exact Nat.le_of_eq (List.length_append)
  · exact Nat.le_succ _
def keptOf (k bits : Nat) : List Int := (rangeKs 0 ((bits : Int) - 0).toNat).foldl (kfold (Int.ofNat k)) []
theorem kept_all : ∀ bits ∈ ([3, 4, 5] : List Nat), ∀ k < 2 ^ bits, ((keptOf k bits).length ≤ 5 ∧ ∀ u ∈ keptOf k bits, 0 < u ∧ u ≤ 16) ∧ ∀ x < 2 ^ bits, ((keptOf k bits).foldl (ufold (Int.ofNat x)) []).sum = Int.ofNat (x &&& k) := by decide +kernel
theorem kept_is {k bits : Nat} (h3 : 3 ≤ bits) (h5 : bits ≤ 5) (hk : k < 2 ^ bits) : (rangeKs 0 ((bits : Int) - 0).toNat).foldl (kfold (k : Int)) [] = keptOf k bits := rfl
theorem kept_len {k bits : Nat} (h3 : 3 ≤ bits) (h5 : bits ≤ 5) (hk : k < 2 ^ bits) : (keptOf k bits).length ≤ 5 := (kept_all bits (bits_mem h3 h5) k hk).1.1
theorem kept_mem {k bits : Nat} (h3 : 3 ≤ bits) (h5 : bits ≤ 5) (hk : k < 2 ^ bits) : ∀ u ∈ keptOf k bits, 0 < u ∧ u ≤ 16 := (kept_all bits (bits_mem h3 h5) k hk).1.2
theorem kept_sum {k bits x : Nat} (h3 : 3 ≤ bits) (h5 : bits ≤ 5) (hk : k < 2 ^ bits) (hx : x < 2 ^ bits) : ((keptOf k bits).foldl (ufold (x : Int)) []).sum = ((x &&& k : Nat) : Int) := (kept_all bits (bits_mem h3 h5) k hk).2 x hx
theorem loose_good {v m k : Nat} (hv : v &&& m = v) : (v &&& k) &&& (m &&& k) = v &&& k := by
  apply Nat.eq_of_testBit_eq
  intro i
  have h := congrArg (fun n => n.testBit i) hv
  simp only [Nat.testBit_and] at h ⊢
  revert h
  cases v.testBit i <;> cases m.testBit i <;> cases k.testBit i <;> simp
theorem loose_within {v m k : Nat} (hv : v &&& m = v) : (Builtin.bitAnd (m : Int) ((m &&& k : Nat) : Int) == ((m &&& k : Nat) : Int) && Builtin.bitAnd (v : Int) ((m &&& k : Nat) : Int) == ((v &&& k : Nat) : Int)) = true := by
  rw [and_cast, and_cast]
  have e1 : m &&& (m &&& k) = m &&& k := by rw [← Nat.and_assoc, Nat.and_self]
  have e2 : v &&& (m &&& k) = v &&& k := by rw [← Nat.and_assoc, hv]
  rw [e1, e2]
  simp
theorem val_lt {v m bits : Nat} (hm : m < 2 ^ bits) (hv : v &&& m = v) : v < 2 ^ bits := Nat.lt_of_le_of_lt (hv ▸ Nat.and_le_right) hm
theorem and_lt {m k bits : Nat} (hm : m < 2 ^ bits) : m &&& k < 2 ^ bits := Nat.lt_of_le_of_lt Nat.and_le_left hm
end Mine
namespace Mine
local macro_rules | `(tactic| walk_at "binaryOp Pow int int") => `(tactic| (k_dflt (refine pw_2 ?k1 ?k2 ?_); (case k1 => with_reducible assumption); (case k2 => with_reducible assumption)))
local macro_rules | `(tactic| walk_at "binaryOp FloorDiv int int") => `(tactic| (k_dflt (refine fd_pow ?k2 ?_); (case k2 => with_reducible assumption)))
local macro_rules | `(tactic| walk_at "binaryOp Mod int int") => `(tactic| (k_dflt (refine md_2 ?_)))
local macro_rules | `(tactic| walk_at "compareOp Eq ref ref") => `(tactic| (k_here; k_dflt (refine' ke_eq_ints ?ka ?kb ?kc ?kd ?ku ?_); (case ka => exact ⟨_, News.get (by k_asm) (by k_mem), rfl, _, rfl⟩); (case kb => exact ⟨_, News.get (by k_asm) (by k_mem), rfl, _, rfl⟩); (case kc => first | assumption | exact IntsAre.nil); (case kd => first | assumption | exact IntsAre.nil); (case ku => ktr_units)))
local macro_rules | `(tactic| walk_at "compareOp NotEq ref ref") => `(tactic| (k_here; k_dflt (refine' ke_ne_ints ?ka ?kb ?kc ?kd ?ku ?_); (case ka => exact ⟨_, News.get (by k_asm) (by k_mem), rfl, _, rfl⟩); (case kb => exact ⟨_, News.get (by k_asm) (by k_mem), rfl, _, rfl⟩); (case kc => first | assumption | exact IntsAre.nil); (case kd => first | assumption | exact IntsAre.nil); (case ku => ktr_units)))
local macro_rules | `(tactic| walk_at "eval Call") => `(tactic| (k_here; (with_reducible show wpAny _ _ (eval (Expr.Call (Expr.Name _ _) _ _ _) _) _ _ _); k_dflt (refine Call_ ?_)))
local macro_rules | `(tactic| walk_at "call ref") => `(tactic| (k_here; (fail_if_success ((with_reducible show wpAny _ _ (call (Value.ref 56) _) _ _ _); (have z9 : Held (1 = 1) := by with_reducible assumption))); refine Held.out ?_))
local macro_rules | `(tactic| walk_at "eval ListComp") => `(tactic| (k_here; refine Held.out ?_))
local macro_rules | `(tactic| walk_at "CompEnd") => `(tactic| (refine Held.out ?_))
local macro_rules | `(tactic| walk_at "CompSrcT") => `(tactic| (k_here; refine Held.out ?_))
local macro_rules | `(tactic| walk_at "exec Assign cons ListComp") => `(tactic| (k_here; refine Held.out ?_))
local macro_rules | `(tactic| walk_at "pyIter ref") => `(tactic| (k_here; refine Held.out ?_))
section
variable {prog : Program} {w : World} {A : Around} {E : Value → Shared → Prop} {s : Shared} {Q : Value → Shared → Prop} {t u : Tok}
theorem pw_10 (h : Q (.int 1000000000000000000 s.toks) { s with toks := s.toks + 1 }) : wpAny (model prog w) A (binaryOp .Pow (.int 10 t) (.int 18 u)) Q E s :=
  pow_int_small (by decide) (by decide) (by decide) (show Q (.int (10 ^ (18 : Int).toNat) s.toks) _ from (show (10 : Int) ^ (18 : Int).toNat = 1000000000000000000 by decide) ▸ h)
end
local macro_rules | `(tactic| walk_at "binaryOp Pow int int") => `(tactic| ((with_reducible show wpAny _ _ (binaryOp Operator.Pow (.int 10 _) (.int 18 _)) _ _ _); k_dflt (refine pw_10 ?_)))
local macro_rules | `(tactic| walk_at "binaryOp Mod int int") => `(tactic| ((with_reducible show wpAny _ _ (binaryOp Operator.Mod _ (.int 2147483629 _)) _ _ _); k_dflt (refine PyProof.Rows.mod_int' (by decide) ?_)))
local macro_rules | `(tactic| walk_at "binaryOp Mod int int") => `(tactic| ((with_reducible show wpAny _ _ (binaryOp Operator.Mod _ (.int 2147483647 _)) _ _ _); k_dflt (refine PyProof.Rows.mod_int' (by decide) ?_)))
local macro_rules | `(tactic| walk_at "binaryOp Mult int int") => `(tactic| ((with_reducible show wpAny _ _ (binaryOp Operator.Mult _ (.int 48271 _)) _ _ _); k_dflt (refine PyProof.Rows.mul_int ?_ (PySem.IntMulOk.of_right (PySem.intBits_le_64 (by decide) (by decide))))))
theorem Held.mk {P : Prop} (h : P) : Held P := h
theorem Held.get {P : Prop} (h : Held P) : P := h
section
variable {prog : Program} {w : World} {A : Around} {E : Value → Shared → Prop} {s : Shared} {Q : Value → Shared → Prop} {a k : Int} {t u : Tok}
theorem fd_unit (h1 : 0 < k ∧ k ≤ 16) (h : Q (.int (a.fdiv k) s.toks) { s with toks := s.toks + 1 }) : wpAny (model prog w) A (binaryOp .FloorDiv (.int a t) (.int k u)) Q E s :=
  floordiv_int (by omega) h (Or.inl (PyProof.noPylong_small (by omega)))
end
local macro_rules | `(tactic| walk_at "binaryOp FloorDiv int int") => `(tactic| (k_dflt (refine fd_unit ?k2 ?_); (case k2 => with_reducible assumption)))
theorem store_cellL {prog : Program} {w : World} {A : Around} {E : Value → Shared → Prop} {s : Shared} {env : Env} {h₀ : Heap} {L : Addr} {m : Str → Option Value} {news : List (Addr × Obj)} {Q : Unit → Shared → Prop} {y : Str} {c : Addr} {oc : Obj} {v₀ : Option Value} {v : Value} (is : List Nat)
    (F : Fr h₀ L s.heap m) (N : News h₀ L s.heap news) (hc : (c, oc) ∈ news) (hd : oc.data = .cell v₀) (hrest : AllNe c (drops is news)) (hek : env.scope.kind = .function) (hy : env.kindOf y = some .cell) (hcl : env.cells.lookup y = some c)
    (h : ∀ h' o', o'.data = .cell (some v) → Fr h₀ L h' m → News h₀ L h' ((c, o') :: drops is news) → Q () { s with heap := h' }) : wpAny (model prog w) A (storeName env y v) Q E s := by
  have zc := N _ hc
  refine wpAny_storeName_cell hek hy hcl ⟨oc, zc.1, hd⟩ fun h₂ hv₂ hs₂ => ?_
  obtain ⟨o', ho', hd'⟩ := hv₂
  refine h h₂ o' hd' (F.change hs₂ zc.2.1 zc.2.2) fun p hp => ?_
  rcases List.mem_cons.mp hp with rfl | hp
  · exact ⟨ho', zc.2⟩
  · exact ⟨hs₂.extBut _ _ (hrest.mem p hp) (N p (mem_drops is hp)).1, (N p (mem_drops is hp)).2⟩
theorem two_of {ys : List Value} {a b : Int} (h : IntsAre ys [a, b]) : ∃ t u, ys = [.int a t, .int b u] := by
  cases h with
  | cons _ t r => cases r with
    | cons _ u q => cases q; exact ⟨t, u, rfl⟩
theorem groundAs {A : Around} {h₀ h' : Heap} {L : Addr} {m : Str → Option Value} (F : Fr h₀ L h' m) (K : Below A h₀ [] h₀) : Below A h₀ [] h₀ := K
def Pooled (h₀ : Heap) (L : Addr) (m : Str → Option Value) (news : List (Addr × Obj)) (s : Shared) (v : Value) (s' : Shared) : Prop :=
  ∃ D x y tx ty n h' tk', v = .ref D ∧ s' = { s with heap := h', toks := tk' } ∧ Fr h₀ L h' m ∧ News h₀ L h' ((D, listOf #[.int x tx, .int y ty] n) :: news) ∧ 0 ≤ x ∧ 0 ≤ y ∧ y < 2147483647 ∧ AllNe D news
theorem great_nn (c : Int) : 0 ≤ (if -1 - c > c then -1 - c else c) := by split <;> omega
theorem pool_nn {g : Int} (h : 0 ≤ g) (b : Bool) : 0 ≤ g * (if b = true then 1 else 0) := by split <;> omega
theorem pool_cut {prog : Program} {w : World} {A : Around} {E : Value → Shared → Prop} {s : Shared} {Q : Value → Shared → Prop} {c : Sem Value} {h₀ : Heap} {L : Addr} {m : Str → Option Value} {news : List (Addr × Obj)} (is : List Nat) (F : Fr h₀ L s.heap m) (N : News h₀ L s.heap news)
    (h : wpAny (model prog w) A c (Pooled h₀ L m (drops is news) s) E s) (hq : ∀ D x y tx ty n h' tk', Fr h₀ L h' m → News h₀ L h' ((D, listOf #[.int x tx, .int y ty] n) :: drops is news) → 0 ≤ x → 0 ≤ y → y < 2147483647 → AllNe D (drops is news) → Q (.ref D) { s with heap := h', toks := tk' }) : wpAny (model prog w) A c Q E s :=
  wpAny_mono h (fun v s' ⟨D, x, y, tx, ty, n, h', tk', e, e', F', N', a, b, c, d⟩ => by subst e; subst e'; exact hq D x y tx ty n h' tk' F' N' a b c d) fun _ _ e => e
section
variable {prog : Program} {w : World} {A : Around} {E : Value → Shared → Prop} {s : Shared} {env : Env} {h₀ : Heap} {x : Str} {body : List Stmt} {Q : Flow → Shared → Prop}
def LawJ (src c1 c2 : Addr) (n : Nat) (T : List (Str × Value)) (nw : List (Addr × Obj)) : Prop :=
  ∃ a b ta tb o1 o2 v1 v2, 0 ≤ a ∧ 0 ≤ b ∧ b < 2147483647 ∧ o1.data = .cell v1 ∧ o2.data = .cell v2 ∧ T = [(Str.ofString "source", .ref src)] ∧ nw = [(src, listOf #[.int a ta, .int b tb] n), (c1, o1), (c2, o2)]
theorem loop_law {r src c1 c2 : Addr} {t₀ u₀ v₀ : Tok} {n : Nat} {a b : Int} {ta tb : Tok} {o1 o2 : Obj} {v1 v2 : Option Value} {m₀ : Str → Option Value} (stored : List Str)
    (N : News h₀ env.locals s.heap [(src, listOf #[.int a ta, .int b tb] n), (c1, o1), (c2, o2)]) (F : Fr h₀ env.locals s.heap m₀)
    (hr : IsRange s.heap r 0 4 1 t₀ u₀ v₀) (hh : A.handled = none) (ha : 0 ≤ a) (hb : 0 ≤ b) (hb2 : b < 2147483647) (d1 : o1.data = .cell v1) (d2 : o2.data = .cell v2) (hm : m₀ (Str.ofString "source") = some (.ref src))
    (turn : ∀ i t u a b ta tb o1 o2 v1 v2 h tk I oI, 0 ≤ a → 0 ≤ b → b < 2147483647 → o1.data = .cell v1 → o2.data = .cell v2 → @Ne Nat src I → @Ne Nat c1 I → @Ne Nat c2 I →
      Fr h₀ env.locals h (fun y => if y = x then some (.int (0 + (i : Int)) t) else mapT [(Str.ofString "source", .ref src)] stored u m₀ y) → News h₀ env.locals h [(I, oI), (src, listOf #[.int a ta, .int b tb] n), (c1, o1), (c2, o2)] →
      wpAny (model prog w) A (execs body env) (JPost h₀ env.locals (JT x stored m₀ (LawJ src c1 c2 n)) [(I, oI)] I { s with heap := h, toks := tk } Q) E { s with heap := h, toks := tk })
    (done : ∀ u nw h tk, Fr h₀ env.locals h (fun y => if y = x then u y else mapT [(Str.ofString "source", .ref src)] stored u m₀ y) → News h₀ env.locals h nw → Q .next { s with heap := h, toks := tk }) :
    wpAny (model prog w) A (pyIter (.ref r)) (fun it s₂ => LoopAtV prog w A h₀ env x body Q E it s₂) E s := by
  refine iter_rangeT (n := 4) stored (fun _ => LawJ src c1 c2 n) ⟨_, ⟨a, b, ta, tb, o1, o2, v1, v2, ha, hb, hb2, d1, d2, rfl, rfl⟩, hm, trivial⟩ hh hr (by decide) (by decide) F N ?_ ?_
  · rintro i t T u nw h tk I oI hi ⟨a, b, ta, tb, o1, o2, v1, v2, ha, hb, hb2, d1, d2, rfl, rfl⟩ hne F₁ N₁
    exact turn i t u a b ta tb o1 o2 v1 v2 h tk I oI ha hb hb2 d1 d2 (hne (src, _) List.mem_cons_self) (hne (c1, _) (List.mem_cons_of_mem _ List.mem_cons_self)) (hne (c2, _) (List.mem_cons_of_mem _ (List.mem_cons_of_mem _ List.mem_cons_self))) F₁ N₁
  · rintro T u nw h tk ⟨a, b, ta, tb, o1, o2, v1, v2, ha, hb, hb2, d1, d2, rfl, rfl⟩ F₁ N₁
    exact done u _ h tk F₁ N₁
end
theorem main : PySem.Challenge.rw_xm0972_01.Holds := hd (by
  w_top off
  k_go0
  all_goals try k_fold
  (rename Below callerA _ _ _ => K8)
  (rename Fr _ _ _ _ => F8)
  (have K9 := groundAs F8 K8)
  clear K8
  k_steps
  (try unfold Held)
  (with_reducible rename News _ _ _ _ => kN0)
  k_dflt (refine' Does.use (meet_ok _ _ _ _ _ _ 1 1 0 2 _ _ _ _ _ _) ?uB ?uF ?uX ?uN ?uT ?uk ?ud ?uu ?_)
  case uB => k_asm
  case uF => k_asm
  case uX => k_asm
  case uN => (refine' news_sub kN0 ?uNS; (case uNS => kcj_all))
  case uT => k_asm
  case uk => first | exact rfl | assumption
  case ud => ktr_room
  case uu => ktr_units
  intro r9 led9 h9 tk9 F9 N9 keep9 new9 out9
  have lt9 := news_lt kN0
  obtain ⟨rfl, rfl⟩ := out9
  have M9 := news_pure (new := []) kN0 (by kcj_all) N9 keep9
  (try (simp only [List.cons_append, List.nil_append] at M9))
  (try (simp only [AllLt, and_true] at lt9))
  (try (dsimp only at lt9))
  clear keep9 new9 kN0; (try clear N9)
  (rw [show (Builtin.bitAnd (Builtin.bitAnd (Builtin.bitXor 1 0) 1) 2 == 0) = true from by decide])
  k_steps
  (try unfold Held)
  (with_reducible rename News _ _ _ _ => kN0)
  k_dflt (refine' Does.use (within_ok _ _ _ _ _ _ 0 2 1 1 _ _ _ _ _ _) ?uB ?uF ?uX ?uN ?uT ?uk ?ud ?uu ?_)
  case uB => k_asm
  case uF => k_asm
  case uX => k_asm
  case uN => (refine' news_sub kN0 ?uNS; (case uNS => kcj_all))
  case uT => k_asm
  case uk => first | exact rfl | assumption
  case ud => ktr_room
  case uu => ktr_units
  intro r9 led9 h9 tk9 F9 N9 keep9 new9 out9
  have lt9 := news_lt kN0
  obtain ⟨rfl, rfl⟩ := out9
  have M9 := news_pure (new := []) kN0 (by kcj_all) N9 keep9
  (try (simp only [List.cons_append, List.nil_append] at M9))
  (try (simp only [AllLt, and_true] at lt9))
  (try (dsimp only at lt9))
  clear keep9 new9 kN0; (try clear N9)
  (rw [show (Builtin.bitAnd 2 1 == 1 && Builtin.bitAnd 0 1 == 1) = false from by decide])
  k_steps
  unfold Held
  (with_reducible rename News _ _ _ _ => kN0)
  k_dflt (refine' pool_cut [0, 0, 0, 0] ?pF kN0 ?pc ?pq)
  case pF => k_asm
  case pc =>
    have go9 : Held (1 = 1) := rfl
    k_steps
    all_goals refine ⟨_, _, _, _, _, _, _, _, rfl, rfl, by assumption, news_sub (by assumption) (by dsimp only [drops, List.eraseIdx]; kcj_all), pool_nn (great_nn _) _, Int.fmod_nonneg_of_pos _ (by decide), Int.fmod_lt_of_pos _ (by decide), ?_⟩
    all_goals (dsimp only [drops, List.eraseIdx]; simp only [AllNe, and_true]; omega)
  case pq =>
    clear kN0
    intro src a b ta tb n h9 tk9 F9 M9 ha hb hb2 hsne
    dsimp only [drops, List.eraseIdx] at M9
    (dsimp only [drops, List.eraseIdx] at hsne; simp only [AllNe, and_true] at hsne)
    k_steps
    unfold Held
    (with_reducible rename News _ _ _ _ => kN0)
    k_dflt (refine' loop_law [Str.ofString "bits", Str.ofString "one", Str.ofString "other", Str.ofString "loose"] kN0 ?lF ?lr rfl ha hb hb2 (by assumption) (by assumption) ?lm ?lt ?ld)
    case lF => k_asm
    case lr => assumption
    case lm => rfl
    case ld =>
      intro u nw h8 tk8 F8 N8
      k_steps
    case lt =>
      intro i t u a b ta tb o1 o2 v1 v2 h8 tk8 I oI ha hb hb2 d1 d2 n1 n2 n3 F8 N8
      k_steps
      (try unfold Held)
      (with_reducible rename News _ _ _ _ => kN0)
      k_dflt (refine' Does.use (take_ok _ _ _ _ src a b ta tb n _ _ ha hb hb2 (by decide) (by decide)) ?uB ?uF ?uX ?uN ?uT ?uk ?ud ?uu ?_)
      case uB => k_asm
      case uF => k_asm
      case uX => k_asm
      case uN => (refine' news_sub kN0 ?uNS; (case uNS => kcj_all))
      case uT => k_asm
      case uk => first | exact rfl | assumption
      case ud => ktr_room
      case uu => ktr_units
      intro r9 led9 h9 tk9 F9 N9 keep9 new9 out9
      have lt9 := news_lt kN0
      obtain ⟨x1, t1, a1, b1, ta1, tb1, rfl, hx1, hx11, ha1, hB1, hbb1, rfl⟩ := out9
      have M9 := news_joinL [1] kN0 N9 keep9 (by (dsimp only [drops, List.eraseIdx, List.map]); (simp only [AllOff, OffL, and_true]); (try omega))
      (try (dsimp only [drops, List.eraseIdx, List.cons_append, List.nil_append] at M9))
      (try (simp only [AllLt, and_true] at lt9))
      (try (dsimp only at lt9))
      clear keep9 new9 kN0; (try clear N9)
      obtain ⟨bits, hbits⟩ : ∃ bits : Nat, 3 + x1 = (bits : Int) := Int.eq_ofNat_of_zero_le (by omega)
      have hb3 : 3 ≤ bits := by omega
      have hb5 : bits ≤ 5 := by omega
      k_steps
      (with_reducible rename Fr _ _ _ _ => kF0)
      (rw [hbits] at kF0 ⊢)
      (try unfold Held)
      (with_reducible rename News _ _ _ _ => kN0)
      k_dflt (refine' Does.use (mask_ok _ _ _ _ src a1 b1 ta1 tb1 n bits _ hb3 hb5 ha1 hB1 hbb1) ?uB ?uF ?uX ?uN ?uT ?uk ?ud ?uu ?_)
      case uB => k_asm
      case uF => k_asm
      case uX => k_asm
      case uN => (refine' news_sub kN0 ?uNS; (case uNS => kcj_all))
      case uT => k_asm
      case uk => first | exact rfl | assumption
      case ud => ktr_room
      case uu => ktr_units
      intro r9 led9 h9 tk9 F9 N9 keep9 new9 out9
      have lt9 := news_lt kN0
      obtain ⟨R₁, v₁, m₁, tv₁, tm₁, k₁, a2, b2, ta2, tb2, rfl, hR₁, hm₁, hv₁, ha2, hB2, hbb2, rfl⟩ := out9
      have ne9 := fresh_ne kN0 (new9 (R₁, _) List.mem_cons_self (off1 hR₁))
      (simp only [AllNe, and_true] at ne9)
      have neA := ne9; clear ne9
      have M9 := news_joinL [0] kN0 N9 keep9 (by (dsimp only [drops, List.eraseIdx, List.map]); (simp only [AllOff, OffL, and_true]); (try omega))
      (try (dsimp only [drops, List.eraseIdx, List.cons_append, List.nil_append] at M9))
      (try (simp only [AllLt, and_true] at lt9))
      (try (dsimp only at lt9))
      clear keep9 new9 kN0; (try clear N9)
      k_steps
      (try unfold Held)
      (with_reducible rename News _ _ _ _ => kN0)
      k_dflt (refine' Does.use (mask_ok _ _ _ _ src a2 b2 ta2 tb2 n bits _ hb3 hb5 ha2 hB2 hbb2) ?uB ?uF ?uX ?uN ?uT ?uk ?ud ?uu ?_)
      case uB => k_asm
      case uF => k_asm
      case uX => k_asm
      case uN => (refine' news_sub kN0 ?uNS; (case uNS => kcj_all))
      case uT => k_asm
      case uk => first | exact rfl | assumption
      case ud => ktr_room
      case uu => ktr_units
      intro r9 led9 h9 tk9 F9 N9 keep9 new9 out9
      have lt9 := news_lt kN0
      obtain ⟨R₂, v₂, m₂, tv₂, tm₂, k₂, a3, b3, ta3, tb3, rfl, hR₂, hm₂, hv₂, ha3, hB3, hbb3, rfl⟩ := out9
      have ne9 := fresh_ne kN0 (new9 (R₂, _) List.mem_cons_self (off1 hR₂))
      (simp only [AllNe, and_true] at ne9)
      have neB := ne9; clear ne9
      have M9 := news_joinL [1] kN0 N9 keep9 (by (dsimp only [drops, List.eraseIdx, List.map]); (simp only [AllOff, OffL, and_true]); (try omega))
      (try (dsimp only [drops, List.eraseIdx, List.cons_append, List.nil_append] at M9))
      (try (simp only [AllLt, and_true] at lt9))
      (try (dsimp only at lt9))
      clear keep9 new9 kN0; (try clear N9)
      k_steps
      (try unfold Held)
      (with_reducible rename News _ _ _ _ => kN0)
      k_dflt (refine' Does.use (mask_ok _ _ _ _ src a3 b3 ta3 tb3 n bits _ hb3 hb5 ha3 hB3 hbb3) ?uB ?uF ?uX ?uN ?uT ?uk ?ud ?uu ?_)
      case uB => k_asm
      case uF => k_asm
      case uX => k_asm
      case uN => (refine' news_sub kN0 ?uNS; (case uNS => kcj_all))
      case uT => k_asm
      case uk => first | exact rfl | assumption
      case ud => ktr_room
      case uu => ktr_units
      intro r9 led9 h9 tk9 F9 N9 keep9 new9 out9
      have lt9 := news_lt kN0
      obtain ⟨R₃, v₃, m₃, tv₃, tm₃, k₃, a4, b4, ta4, tb4, rfl, hR₃, hm₃, hv₃, ha4, hB4, hbb4, rfl⟩ := out9
      have ne9 := fresh_ne kN0 (new9 (R₃, _) List.mem_cons_self (off1 hR₃))
      (simp only [AllNe, and_true] at ne9)
      have neC := ne9; clear ne9
      have M9 := news_joinL [1] kN0 N9 keep9 (by (dsimp only [drops, List.eraseIdx, List.map]); (simp only [AllOff, OffL, and_true]); (try omega))
      (try (dsimp only [drops, List.eraseIdx, List.cons_append, List.nil_append] at M9))
      (try (simp only [AllLt, and_true] at lt9))
      (try (dsimp only at lt9))
      clear keep9 new9 kN0; (try clear N9)
      k_steps
      have qq9 := Held.mk (And.intro hR₁ (And.intro hR₂ (And.intro hR₃ (And.intro n1 (And.intro hm₁ (And.intro hm₂ (And.intro hm₃ (And.intro hv₁ (And.intro hv₂ (And.intro hsne (And.intro n2 (And.intro n3 (And.intro neA (And.intro neB neC))))))))))))))
      clear hR₁ hR₂ hR₃ n1 n2 n3 hm₁ hm₂ hm₃ hv₁ hv₂ hv₃ hsne neA neB neC
      unfold Held
      k_dflt (refine wpAny_Assign_Name (hs := by with_unfolding_all rfl) ?_)
      k_dflt (refine LCt.ListComp_T (F₀ := by k_asm) (by with_unfolding_all rfl) (by decide) (by rfl) (by decide) (by rfl) ?_)
      k_steps
      unfold Held
      k_dflt (refine LCt.CompSrcT.range (by rfl) (by k_asm) (by k_asm) (by assumption) (by exact small_one (by omega) (by omega) (by omega) (by omega)) (by exact rangeSize_nat _ _) (by rw [PySem.sizeLine_eq]; omega) ?_)
      intro g9
      refine' kci_range (kfold (m₃ : Int)) (fun k' t' I' oI' C' oC' D' m' ys' l' h' tk' E' hlo' hhi' hI' hC' hx' F' N' off' ne' hMark' => ?_) ?_ ?_
      · have hk20 : k' ≤ 20 := by omega
        clear ne'
        k_steps
        all_goals unfold Held
        · exact LCg.CompEnd.intro (by assumption) (by assumption) _ (fun _ hp => hp) off' trivial ⟨rfl, _, _, rfl, if_pos (by assumption)⟩
        · exact LCg.CompEnd.intro (by assumption) (by assumption) _ (fun _ hp => hp) off' trivial ⟨rfl, if_neg (by assumption)⟩
      · unfold KPfDone LCg.FinE
        intro ys hys hlen D8 h8 tk8 F8 N8 off8
        obtain ⟨hR₁, hR₂, hR₃, n1, hm₁, hm₂, hm₃, hv₁, hv₂, hsne, n2, n3, neA, neB, neC⟩ := Held.get qq9
        clear qq9
        rw [kept_is hb3 hb5 hm₃] at hys
        have z8 := hys.length
        have z9 := kept_len hb3 hb5 hm₃
        have z10 := kept_mem hb3 hb5 hm₃
        have hval : ∀ a ∈ [(v₁ : Int), (m₁ : Int)], ∃ y : Nat, a = (y : Int) ∧ y < 2 ^ bits := by
          intro a ha
          rcases List.mem_cons.mp ha with rfl | ha
          · exact ⟨v₁, rfl, val_lt hm₁ hv₁⟩
          · exact ⟨m₁, List.mem_singleton.mp ha, hm₁⟩
        have hsum : ∀ y : Nat, y < 2 ^ bits → ((keptOf m₃ bits).foldl (ufold (y : Int)) []).sum = ((y &&& m₃ : Nat) : Int) := fun y hy => kept_sum hb3 hb5 hm₃ hy
        have gL := Held.mk (loose_good (k := m₃) hv₁)
        have gW := Held.mk (loose_within (k := m₃) hv₁)
        have gl := Held.mk (and_lt (k := m₃) hm₁)
        have gM := Held.mk (And.intro hm₁ (And.intro hv₁ (And.intro hm₂ hv₂)))
        have h12 := Held.mk neB.1
        have gS := Held.mk (And.intro hR₁ (And.intro hR₂ (And.intro n1 hsne)))
        have gI := Held.mk (And.intro n1 (And.intro n2 n3))
        have gC := Held.mk (And.intro off8 (And.intro hsne (And.intro n2 (And.intro neA neB))))
        clear hR₁ hR₂ hR₃ n1 n2 n3 hm₁ hm₂ hm₃ hv₁ hv₂ hsne neA neB neC off8
        k_dflt (refine' store_cellL [7, 2, 1] ?sF ?sN ?sc ?sd ?sr rfl rfl ?sl ?sh)
        case sF => k_asm
        case sN => k_asm
        case sl => with_unfolding_all rfl
        case sc => k_mem
        case sd => assumption
        case sr =>
          obtain ⟨off8, ⟨s1, s2⟩, n2, ⟨a1, a2, a3, a4⟩, b1, b2, b3, b4, b5⟩ := Held.get gC
          simp only [LCg.Off1, and_true] at off8
          obtain ⟨o1, o2, o3, o4, o5, o6, o7, o8⟩ := off8
          dsimp only [drops, List.eraseIdx]
          exact ⟨Ne.symm o7, Ne.symm s1, Ne.symm b4, Ne.symm a3, Ne.symm n2, fun e => absurd e (by omega), trivial⟩
        clear gC
        (try clear kN0)
        intro h7 o7 d7 F7 N7
        (dsimp only [drops, List.eraseIdx] at N7)
        k_steps
        unfold Held
        k_dflt (refine' ListComp_cellT (t := R₁) (its := #[.int (v₁ : Int) tv₁, .int (m₁ : Int) tm₁]) (k := k₁) (xs := [(v₁ : Int), (m₁ : Int)]) (fun a => ((a.toNat &&& m₃ : Nat) : Int)) rfl ?lF ?lN ?lt ?li ?lz ?lclos rfl ?lnames ?lx ?lcells ?lpush ?lit ?lelt ?lfin)
        case lF => k_asm
        case lN => k_asm
        case lt => k_mem
        case li => exact .cons _ _ (.cons _ _ .nil)
        case lz => exact Nat.le_trans (Nat.le_of_ble_eq_true rfl : 2 ≤ 64) (by rw [sizeLine_eq]; decide)
        case lclos => with_unfolding_all rfl
        case lnames => decide
        case lx => rfl
        case lcells => intro _; rfl
        case lpush => intro _; rfl
        case lit => intro Q hq; exact nameX_L (by assumption) rfl hq rfl rfl (by decide)
        case lelt =>
          intro X oX I' oI' C oC D ys' a ta h tk E' ha hX F N
          obtain ⟨y, rfl, hy⟩ := hval a ha
          have hs9 := hsum y hy
          clear hy
          k_steps
          unfold Held
          k_dflt (refine LCt.ListComp_T (F₀ := by k_asm) (by with_unfolding_all rfl) (by decide) (by rfl) (by decide) (by rfl) ?_)
          k_steps
          unfold Held
          k_dflt (refine LCt.CompSrcT.ledger (its := ys.toArray) (by rfl) (by k_asm) (by k_asm) (by k_mem) (by rw [List.size_toArray, sizeLine_eq]; omega) ?_)
          intro g9
          refine' kci_list (ufold (y : Int)) hys (fun k' t' I' oI' C' oC' D' m' ys' l' h' tk' E' hk' hI' hC' hx' F' N' off' ne' hMark' => ?_) ?_ ?_
          · have hu := z10 k' hk'
            clear ne'
            k_steps
            all_goals unfold Held
            · exact LCg.CompEnd.intro (by assumption) (by assumption) _ (fun _ hp => hp) off' (by lcg_src) ⟨rfl, _, _, rfl, if_pos (by assumption)⟩
            · exact LCg.CompEnd.intro (by assumption) (by assumption) _ (fun _ hp => hp) off' (by lcg_src) ⟨rfl, if_neg (by assumption)⟩
          · unfold KPfDone LCg.FinE
            intro zs hzs hlen D9 h9 tk9 F9 N9 off9
            clear off9
            have z11 : zs.length ≤ 5 := by rw [List.size_toArray] at hlen; omega
            generalize List.foldl (ufold (y : Int)) [] (keptOf m₃ bits) = us at hzs hs9
            k_steps
            exact ⟨_, _, _, congrArg (fun x => Value.int x _) hs9, rfl, by assumption, news_sub (by assumption) (by kcj_all)⟩
          · exact ufold_grows _
        case lfin =>
          intro D ys9 h9 tk9 F9 N9 lt9 hy9
          have lt9 := allLt_of lt9
          simp only [AllLt, and_true] at lt9
          obtain ⟨t5, u5, rfl⟩ := two_of hy9
          k_steps
          (try unfold Held)
          (with_reducible rename News _ _ _ _ => kN0)
          k_dflt (refine' Does.use (within_ok _ _ _ _ R₁ _ (v₁ : Int) (m₁ : Int) ((v₁ &&& m₃ : Nat) : Int) ((m₁ &&& m₃ : Nat) : Int) _ _ _ _ _ _) ?uB ?uF ?uX ?uN ?uT ?uk ?ud ?uu ?_)
          case uB => k_asm
          case uF => k_asm
          case uX => k_asm
          case uN => (refine' news_sub kN0 ?uNS; (case uNS => kcj_all))
          case uT => k_asm
          case uk => first | exact rfl | assumption
          case ud => ktr_room
          case uu => ktr_units
          intro r9 led9 h9 tk9 F9 N9 keep9 new9 out9
          have lt9 := news_lt kN0
          obtain ⟨rfl, rfl⟩ := out9
          have M9 := news_pure (new := []) kN0 (by kcj_all) N9 keep9
          (try (simp only [List.cons_append, List.nil_append] at M9))
          (try (simp only [AllLt, and_true] at lt9))
          (try (dsimp only at lt9))
          clear keep9 new9 kN0; (try clear N9)
          (rw [Held.get gW])
          k_steps
          (try unfold Held)
          (with_reducible rename News _ _ _ _ => kN0)
          k_dflt (refine' Does.use (both_ok _ _ _ _ R₁ _ v₁ m₁ (v₁ &&& m₃) (m₁ &&& m₃) _ _ _ _ _ _ bits _ hb3 hb5 (Nat.ne_of_lt (by omega)) (Held.get gM).1 (Held.get gM).2.1 (Held.get gl) (Held.get gL)) ?uB ?uF ?uX ?uN ?uT ?uk ?ud ?uu ?_)
          case uB => k_asm
          case uF => k_asm
          case uX => k_asm
          case uN => (refine' news_sub kN0 ?uNS; (case uNS => kcj_all))
          case uT => k_asm
          case uk => first | exact rfl | assumption
          case ud => ktr_room
          case uu => ktr_units
          intro r9 led9 h9 tk9 F9 N9 keep9 new9 out9
          have lt9 := news_lt kN0
          obtain ⟨rfl, rfl⟩ := out9
          have M9 := news_pure (new := []) kN0 (by kcj_all) N9 keep9
          (try (simp only [List.cons_append, List.nil_append] at M9))
          (try (simp only [AllLt, and_true] at lt9))
          (try (dsimp only at lt9))
          clear keep9 new9 kN0; (try clear N9)
          k_steps
          (try unfold Held)
          (with_reducible rename News _ _ _ _ => kN0)
          k_dflt (refine' Does.use (both_ok _ _ _ _ R₁ R₂ v₁ m₁ v₂ m₂ _ _ _ _ _ _ bits _ hb3 hb5 (Held.get h12) (Held.get gM).1 (Held.get gM).2.1 (Held.get gM).2.2.1 (Held.get gM).2.2.2) ?uB ?uF ?uX ?uN ?uT ?uk ?ud ?uu ?_)
          case uB => k_asm
          case uF => k_asm
          case uX => k_asm
          case uN => (refine' news_sub kN0 ?uNS; (case uNS => kcj_all))
          case uT => k_asm
          case uk => first | exact rfl | assumption
          case ud => ktr_room
          case uu => ktr_units
          intro r9 led9 h9 tk9 F9 N9 keep9 new9 out9
          have lt9 := news_lt kN0
          obtain ⟨rfl, rfl⟩ := out9
          have M9 := news_pure (new := []) kN0 (by kcj_all) N9 keep9
          (try (simp only [List.cons_append, List.nil_append] at M9))
          (try (simp only [AllLt, and_true] at lt9))
          (try (dsimp only at lt9))
          clear keep9 new9 kN0; (try clear N9)
          k_steps
          obtain ⟨hR₁, hR₂, n1, hsne⟩ := Held.get gS
          (try unfold Held)
          (with_reducible rename News _ _ _ _ => kN0)
          k_dflt (refine' Does.use (wishright_ok _ _ _ _ src a4 b4 ta4 tb4 n bits _ hb3 hb5 ha4 hB4 hbb4) ?uB ?uF ?uX ?uN ?uT ?uk ?ud ?uu ?_)
          case uB => k_asm
          case uF => k_asm
          case uX => k_asm
          case uN => (refine' news_sub kN0 ?uNS; (case uNS => kcj_all))
          case uT => k_asm
          case uk => first | exact rfl | assumption
          case ud => ktr_room
          case uu => ktr_units
          intro r9 led9 h9 tk9 F9 N9 keep9 new9 out9
          have lt9 := news_lt kN0
          obtain ⟨a5, b5, ta5, tb5, rfl, ha5, hB5, hbb5, rfl⟩ := out9
          have M9 := news_joinL [4, 3] kN0 N9 keep9 (by (dsimp only [drops, List.eraseIdx, List.map]); (simp only [AllOff, OffL, and_true]); (try omega))
          (try (dsimp only [drops, List.eraseIdx, List.cons_append, List.nil_append] at M9))
          (try (simp only [AllLt, and_true] at lt9))
          (try (dsimp only at lt9))
          clear keep9 new9 kN0; (try clear N9)
          clear hR₁ hR₂ n1 hsne
          k_steps
          obtain ⟨n1, n2, n3⟩ := Held.get gI
          refine JEnd.intro (by assumption) (news' := [(src, _), (_, o7), (_, _)]) (news_sub (by assumption) ?js) (AllNe.mem (D := I) ⟨n1, n2, n3, trivial⟩) ⟨[(Str.ofString "source", Value.ref src)], ⟨a5, b5, ta5, tb5, o7, _, _, _, ha5, hB5, hbb5, d7, (show Obj.data _ = Data.cell (some (.int (m₃ : Int) tm₃)) by assumption), rfl, rfl⟩, ⟨rfl, trivial⟩, ?jy⟩
          · kcj_all
          · intro y y1 y2 y3
            have e1 : y ≠ Str.ofString "bits" := contains_ne y3 (by decide)
            have e2 : y ≠ Str.ofString "one" := contains_ne y3 (by decide)
            have e3 : y ≠ Str.ofString "other" := contains_ne y3 (by decide)
            have e4 : y ≠ Str.ofString "loose" := contains_ne y3 (by decide)
            simp only [if_neg e1, if_neg e2, if_neg e3, if_neg e4, if_neg y1]
            exact mapT_none y2 y3 rfl
      · exact kfold_grows _)
end Mine
theorem PySem.Challenge.cw_xm0972_01_holds : PySem.Challenge.rw_xm0972_01.Holds :=
  Mine.main
