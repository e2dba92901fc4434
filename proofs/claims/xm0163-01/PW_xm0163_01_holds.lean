import PyProof.Rows.All
import Wide.All
import OpenK.AllK
import Wide.FinOn
import PySem.Challenge.RW_xm0163_01
set_option Elab.async false
set_option compiler.extract_closed false

section
open PySem PySem.W PyProof.Rows
set_option Elab.async false
namespace Mine
set_option maxRecDepth 100000 in
set_option maxHeartbeats 8000000 in
open_top hd for PySem.Challenge.rw_xm0163_01
end Mine

end

section
open PySem PySem.W PyProof.Rows PySem.Calls
set_option Elab.async false
namespace Mine
theorem mul_ok_fm {z b : Int} : IntMulOk (Int.fmod z 2147483647) b :=
  .of_left (intBits_le_64 (Int.lt_of_lt_of_le (by decide) (Int.fmod_nonneg_of_pos z (by decide))) (Int.lt_trans (Int.fmod_lt_of_pos z (by decide)) (by decide)))
local macro_rules | `(tactic| mul_fits) => `(tactic| (with_unfolding_all exact mul_ok_fm))
set_option maxRecDepth 100000 in
set_option maxHeartbeats 8000000 in
theorem take_spec {w : World} {mean : ExcName → Option Value} {mg mb : Str → Option Value} {dp un : Nat} {gd : Option (List Code)} {cn : Str} {cs : Scope} {a : Addr} {ccd : Value} {cl : List (Str × Addr)} {outer : List Env} {A₀ : Around} {base h₀ : Heap} {L : Addr} {m : Str → Option Value} {s : Shared} {Q E : Value → Shared → Prop}
    (B : Below A₀ base outer h₀) (F : Fr h₀ L s.heap m) (X : (Mine.hd.heap_39 w.params).In h₀) (T : Top Mine.hd.view_39 (looseW Mine.hd.view_39 [Str.ofString "ChanError"]) mean mg mb h₀) (hk : cs.kind = .function)
    (hdp : dp + 2 < recursionLimit) (hun : un + 16 < cLine)
    {l : Addr} {x y : Int} {tx ty : Tok} {n : Nat} {top : Int} {tt : Tok} (N : News h₀ L s.heap [(l, W.listOf #[.int x tx, .int y ty] n)])
    (ht0 : 0 < top) (ht1 : top ≤ 100)
    (ret : ∀ k t x' tx' y' ty' n' h' tk', 0 ≤ k → k < top →
      News h₀ L h' [(l, W.listOf #[.int x' tx', .int y' ty'] n')] → Fr h₀ L h' m → (∀ b o, b ≠ l → s.heap.get? b = some o → h'.get? b = some o) → Q (.int k t) { s with heap := h', toks := tk' }) :
    wpAny (model Challenge.rw_xm0163_01.row.prog w) (ktrTop dp un gd cn cs L a ccd cl outer) (call (.ref 80) [.ref l, .int top tt]) Q E s := by
  revert X; k_fill; intro X
  refine wpAny_call ?_
  refine' code_defG B F X N T rfl rfl hk ?k6 ?k7 ?k8 ?k9 ?kB ?_ ?c2 ?c3 ?c4 ?c5
  case k6 => k_is
  case k7 => k_is
  case k8 => ktr_room
  case k9 => exact BindsTo.of_eq rfl
  case kB => exact locs rfl
  case c2 => exact rfl
  case c3 => exact rfl
  case c4 => exact rfl
  case c5 => decide
  intro g' L' h' FG' F' N' B' X' T' kG'
  (try dsimp only)
  (try k_fold)
  w_top off
  k_steps
  all_goals (
    refine' ret _ _ _ _ _ _ _ _ _ ?a ?b ?c ?d ?e
    case a => exact Int.fmod_nonneg_of_pos _ ht0
    case b => exact Int.fmod_lt_of_pos _ ht0
    case c => assumption
    case d => assumption
    case e => exact fun b o hb e => (Fr.keep (h := _) (by assumption)) b o (kG' b o e (by simpa using hb)))
end Mine

end

section
open PySem PySem.W PyProof.Rows PySem.Calls
set_option Elab.async false
namespace Mine
abbrev PR : Program := Challenge.rw_xm0163_01.row.prog
theorem upd_pair {l : Addr} {o o' : Obj} {news news' : List (Addr × Obj)} (U : Upd l o o' news news') {h₀ h h' : Heap} {L : Addr} (N : News h₀ L h news)
    (N1 : News h₀ L h' [(l, o')]) (keep : ∀ b o, b ≠ l → h.get? b = some o → h'.get? b = some o) : News h₀ L h' news' := by
  obtain ⟨pre, post, rfl, rfl, h1, h2⟩ := U.split
  intro p hp
  rcases List.mem_append.mp hp with q | q
  · have z := N p (List.mem_append_left _ q)
    exact ⟨keep _ _ (h1 p q) z.1, z.2⟩
  · rcases List.mem_cons.mp q with rfl | q
    · exact N1 _ (.head _)
    · have z := N p (List.mem_append_right _ (.tail _ q))
      exact ⟨keep _ _ (h2 p q) z.1, z.2⟩
theorem upd_mem {l : Addr} {o o' : Obj} {news news' : List (Addr × Obj)} (U : Upd l o o' news news') : (l, o) ∈ news := by
  obtain ⟨pre, post, rfl, rfl, h1, h2⟩ := U.split
  exact List.mem_append_right _ (.head _)
theorem news_one {h₀ h : Heap} {L : Addr} {news : List (Addr × Obj)} {p : Addr × Obj} (N : News h₀ L h news) (hm : p ∈ news) : News h₀ L h [p] := fun q hq => by
  rw [List.mem_singleton.mp hq]; exact N p hm

section
variable {w : World} {mean : ExcName → Option Value} {mg mb : Str → Option Value} {dp un : Nat} {gd : Option (List Code)} {cn : Str} {cs : Scope} {a : Addr} {ccd : Value} {cl : List (Str × Addr)} {outer : List Env} {A₀ : Around} {base h₀ : Heap} {L : Addr} {m : Str → Option Value} {s : Shared} {Q E : Value → Shared → Prop} {news : List (Addr × Obj)}

theorem take_at (B : Below A₀ base outer h₀) (F : Fr h₀ L s.heap m) (X : (Mine.hd.heap_39 w.params).In h₀) (T : Top Mine.hd.view_39 (looseW Mine.hd.view_39 [Str.ofString "ChanError"]) mean mg mb h₀) (N : News h₀ L s.heap news) (hk : cs.kind = .function)
    {l : Addr} {x y : Int} {tx ty : Tok} {n : Nat} {top : Int} {tt : Tok} {f : Obj → List (Addr × Obj)} (U : ∀ o', Upd l (W.listOf #[.int x tx, .int y ty] n) o' news (f o'))
    (ht0 : 0 < top) (ht1 : top ≤ 100)
    (hdp : dp + 2 < recursionLimit) (hun : un + 16 < cLine)
    (ret : ∀ k t x' tx' y' ty' n' h' tk', 0 ≤ k → k < top → Fr h₀ L h' m → News h₀ L h' (f (W.listOf #[.int x' tx', .int y' ty'] n')) → (∀ b o, b ≠ l → s.heap.get? b = some o → h'.get? b = some o) →
      Q (.int k t) { s with heap := h', toks := tk' }) :
    wpAny (model Challenge.rw_xm0163_01.row.prog w) (ktrTop dp un gd cn cs L a ccd cl outer) (call (.ref 80) [.ref l, .int top tt]) Q E s :=
  take_spec B F X T hk hdp hun (news_one N (upd_mem (U default))) ht0 ht1 fun k t x' tx' y' ty' n' h' tk' h1 h2 N1 F1 kp => ret k t x' tx' y' ty' n' h' tk' h1 h2 F1 (upd_pair (U _) N N1 kp) kp

end

local macro_rules | `(tactic| walk_at "call ref") => `(tactic| (k_here; (with_reducible show wpAny _ _ (call (Value.ref 80) _) _ _ _); k_dflt (refine' take_at ?k1 ?k2 ?k3 ?k4 ?k5 ?kK ?kU ?t0 ?t1 ?kd ?ku ?_; (case k1 => k_asm); (case k2 => k_asm); (case k3 => k_asm); (case k4 => k_asm); (case k5 => k_asm); (case kK => first | exact rfl | assumption); (case kU => (intro _; k_upd)); (case t0 => first | decide | omega | assumption); (case t1 => first | decide | omega | assumption); (case kd => ktr_room); (case ku => ktr_units); intro k t x' tx' y' ty' n' h' tk' hk0 hk1 F' N' kp; (try dsimp only); (try k_sweep))))

theorem my_item {prog : Program} {w : World} {A : Around} {E : Value → Shared → Prop} {s : Shared} {value slice : PySem.Expr} {l : Addr} {its : Array Value} {k : Int} {u : Tok} {Q : Value → Shared → Prop}
    (hl : s.heap.IsList l its) (h0 : 0 ≤ k) (h1 : k < its.size) (h2 : its.size < 2 ^ 62) (h : ∀ v, (∃ i, i < its.size ∧ its[i]? = some v) → Q v s)
    (hs : subscripted slice false (.ref l) (.int k u) = operate [.ref l, .int k u] (getItem (.ref l) (.int k u)) := by with_unfolding_all rfl) :
    wpAny (model prog w) A (subscriptTail value slice (.ref l) (.int k u)) Q E s := by
  have hi : k.toNat < its.size := by omega
  exact tail_any hl.typeIs slot_list_getitem.lookup (wpAny_getItem_list hl h0 (by omega) (Array.getElem?_eq_getElem hi) (h _ ⟨_, hi, Array.getElem?_eq_getElem hi⟩)) hs

local macro_rules | `(tactic| walk_at "subscriptTail") => `(tactic| (k_here; (with_reducible show wpAny _ _ (subscriptTail _ _ (Value.ref _) (Value.int _ _)) _ _ _); (with_unfolding_all refine' my_item ?k1 ?k2 ?k3 ?k4 ?_ ?k6; (case k1 => is_list); (case k2 => assumption); (case k3 => assumption); (case k4 => omega); (case k6 => with_unfolding_all rfl); k_whole); intro v hv))
set_option maxRecDepth 100000 in
set_option maxHeartbeats 8000000 in
theorem one_spec {w : World} {mean : ExcName → Option Value} {mg mb : Str → Option Value} {dp un : Nat} {gd : Option (List Code)} {cn : Str} {cs : Scope} {a : Addr} {ccd : Value} {cl : List (Str × Addr)} {outer : List Env} {A₀ : Around} {base h₀ : Heap} {L : Addr} {m : Str → Option Value} {s : Shared} {Q E : Value → Shared → Prop}
    (B : Below A₀ base outer h₀) (F : Fr h₀ L s.heap m) (X : (Mine.hd.heap_39 w.params).In h₀) (T : Top Mine.hd.view_39 (looseW Mine.hd.view_39 [Str.ofString "ChanError"]) mean mg mb h₀) (hk : cs.kind = .function)
    (hdp : dp + 4 < recursionLimit) (hun : un + 32 < cLine)
    {l th : Addr} {x y : Int} {tx ty : Tok} {n : Nat} {its : Array Value} (N : News h₀ L s.heap [(l, W.listOf #[.int x tx, .int y ty] n)])
    (hth : s.heap.IsList th its) (hne : th ≠ l) (hs0 : 0 < its.size) (hs1 : its.size ≤ 100)
    (ret : ∀ v x' tx' y' ty' n' h' tk', (∃ i, i < its.size ∧ its[i]? = some v) →
      News h₀ L h' [(l, W.listOf #[.int x' tx', .int y' ty'] n')] → Fr h₀ L h' m → (∀ b o, b ≠ l → s.heap.get? b = some o → h'.get? b = some o) → Q v { s with heap := h', toks := tk' }) :
    wpAny (model Challenge.rw_xm0163_01.row.prog w) (ktrTop dp un gd cn cs L a ccd cl outer) (call (.ref 87) [.ref l, .ref th]) Q E s := by
  revert X; k_fill; intro X
  refine wpAny_call ?_
  refine' code_defG B F X N T rfl rfl hk ?k6 ?k7 ?k8 ?k9 ?kB ?_ ?c2 ?c3 ?c4 ?c5
  case k6 => k_is
  case k7 => k_is
  case k8 => ktr_room
  case k9 => exact BindsTo.of_eq rfl
  case kB => exact locs rfl
  case c2 => exact rfl
  case c3 => exact rfl
  case c4 => exact rfl
  case c5 => decide
  intro g' L' h' FG' F' N' B' X' T' kG'
  have hthg : g'.IsList th its := by
    obtain ⟨o, ho, r⟩ := hth
    exact ⟨o, kG' _ _ ho (by simpa using hne), r⟩
  (try dsimp only)
  (try k_fold)
  w_top off
  k_steps
  refine' ret _ _ _ _ _ _ _ _ ?a ?b ?c ?d
  case a => assumption
  case b => assumption
  case c => assumption
  case d => exact fun b o hb e => (Fr.keep (h := _) (by assumption)) b o (kG' b o e (by simpa using hb))
end Mine

end

section
open PySem PySem.W PyProof.Rows PySem.Calls
set_option Elab.async false
namespace Mine
section
variable {prog : Program} {w : World} {A₀ A : Around} {s : Shared} {base h₀ : Heap} {outer : List Env} {L : Addr} {m : Str → Option Value} {env : Env} {K : Frag} {p : Program} {loose : List Str} {mean : ExcName → Option Value} {mg mb : Str → Option Value}
  {R : Result → Shared → Prop} {name qual : Str} {params : Arguments} {body : List Stmt} {scope : Scope} {dV kV doc pm cdv ct oc : Value} {an od : Option Addr} {osl : Array (Option Value)} {f : Addr} {args : Args} {binds : List (Str × Value)}

/-- a def with cells is entered; all that stands is the ground of its frame -/
theorem enter0C (B : Below A₀ base outer h₀) (F : Fr h₀ L s.heap m) (X₀ : K.In h₀) (T : Top p loose mean mg mb h₀) (hA : A.frames = some (env :: outer)) (hf : env.frame = some L) (hke : env.scope.kind = .function)
    (ho : K.lookup f = some ⟨oc, od, .func (fnOf name qual params body scope dV kV doc pm an cdv ct), osl⟩) (hcd : codeIn K cdv qual = true) (hroom : A.depth < recursionLimit)
    (hbind : BindsTo s (fnOf name qual params body scope dV kV doc pm an cdv ct) args binds) (hkind : (binds.all fun y => scope.names.lookup y.1 == some .local || scope.names.lookup y.1 == some .cell) = true)
    (hnd : ((cellsFrom 0 scope.names []).map (·.1)).Nodup)
    (h : ∀ L' h₁ tk cells, Fr s.heap L' h₁ (bindL (envOfC qual scope L' f cdv).kindOf binds fun _ => none) → News s.heap L' h₁ (cells ++ []) →
      CellsAre (bindC (envOfC qual scope L' f cdv).kindOf binds fun _ => none) (cellsFrom (L' + 1) scope.names []) cells → Below A base (env :: outer) s.heap → K.In s.heap → Top p loose mean mg mb s.heap →
      wpAny (model prog w) (A.deeper (envOfC qual scope L' f cdv)) (execs body (envOfC qual scope L' f cdv))
        (fun fl s' => LeaveK h₀ L m s.heap R (match fl with | .ret v => v | _ => .none) s')
        (fun e s' => wpAny (model prog w) (A.deeper (envOfC qual scope L' f cdv)) (leaving (envOfC qual scope L' f cdv) e) (fun _ s'' => R (.error e) s'') (fun e' s'' => R (.error e') s'') s')
        { s with heap := h₁, toks := tk })
    (hco : scope.isCoroutine = false) (hgen : scope.isGenerator = false) (hk : scope.kind = .function) : codeAny (model prog w) A (.call (.ref f) args) R s := by
  obtain ⟨FG, BG, st, lv⟩ := groundX (R := R) (news := []) B F News.nil hA hf hke
  refine codeAny_call_function hroom ((X₀.keeps F.keep) _ _ ho) rfl hco hgen rfl (codeRec_of (X₀.keeps F.keep) hcd) (hbind _ _ _ _ ?_)
  refine wpAny_newFunctionEnv_cells hk (kindsX hkind _) fun env' he s' x => ?_
  subst he
  refine ⟨(T.nolimit.keeps F.keep).keeps x.toInCall.keep, codeAny_func ?_⟩
  obtain ⟨h₁, tk, rfl, _⟩ := x.done
  have hk₁ := x.toInCall.keep
  obtain ⟨cells, NC, Y⟩ := Cl.news (h₀ := s.heap) (Nat.le_refl _) fun n c hm => ⟨x.cell n c (lookup_of_mem_nodup (cellsFrom_names scope.names 0 (s.heap.objs.size + 1) [] [] rfl ▸ hnd) hm), x.above n c hm⟩
  refine wpAny_mono (h s.heap.objs.size h₁ tk cells ⟨x.toInCall.ns, hk₁, Nat.le_refl _⟩ (fun p hp => ?_) Y BG (X₀.keeps F.keep) (T.keeps F.keep)) (fun fl s' hl => lv _ _ hl) fun _ _ y => y
  rw [List.append_nil] at hp
  exact NC p hp

theorem enter0 (B : Below A₀ base outer h₀) (F : Fr h₀ L s.heap m) (X₀ : K.In h₀) (T : Top p loose mean mg mb h₀) (hA : A.frames = some (env :: outer)) (hf : env.frame = some L) (hke : env.scope.kind = .function)
    (ho : K.lookup f = some ⟨oc, od, .func (fnOf name qual params body scope dV kV doc pm an cdv ct), osl⟩) (hcd : codeIn K cdv qual = true) (hroom : A.depth < recursionLimit)
    (hbind : BindsTo s (fnOf name qual params body scope dV kV doc pm an cdv ct) args binds) (hloc : ∀ y ∈ binds, scope.names.lookup y.1 = some .local)
    (h : ∀ L' h₁, Fr s.heap L' h₁ (fun y => binds.reverse.lookup y) → News s.heap L' h₁ [] → Below A base (env :: outer) s.heap → K.In s.heap → Top p loose mean mg mb s.heap →
      wpAny (model prog w) (A.deeper (envOf qual scope L' f cdv)) (execs body (envOf qual scope L' f cdv))
        (fun fl s' => LeaveK h₀ L m s.heap R (match fl with | .ret v => v | _ => .none) s')
        (fun e s' => wpAny (model prog w) (A.deeper (envOf qual scope L' f cdv)) (leaving (envOf qual scope L' f cdv) e) (fun _ s'' => R (.error e) s'') (fun e' s'' => R (.error e') s'') s')
        { s with heap := h₁, toks := s.toks + binds.length })
    (hco : scope.isCoroutine = false) (hgen : scope.isGenerator = false) (hk : scope.kind = .function)
    (hcell : ∀ x ∈ scope.names, x.2 ≠ .cell) : codeAny (model prog w) A (.call (.ref f) args) R s := by
  obtain ⟨FG, BG, st, lv⟩ := groundX (R := R) (news := []) B F News.nil hA hf hke
  refine codeAny_call_def (fd := fnX name qual params body scope [] dV kV doc pm an cdv ct) (body := body) (binds := binds) hroom ((X₀.keeps F.keep) _ _ ho) rfl (T.nolimit.keeps F.keep) (codeRec_of (X₀.keeps F.keep) hcd) rfl hbind hcell hloc (fun h₁ hns hk₁ => ?_) hco hgen hk
  exact wpAny_mono (h s.heap.objs.size h₁ ⟨hns, hk₁, Nat.le_refl _⟩ News.nil BG (X₀.keeps F.keep) (T.keeps F.keep)) (fun fl s' hl => lv _ _ hl) fun _ _ y => y
end

end Mine

end

section
open PySem PySem.W PyProof.Rows PySem.Calls
set_option Elab.async false
namespace Mine
open LCg
/-- what the ledger bears at v -/
def LR (h₀ : Heap) (news : List (Addr × Obj)) (v : Value) (d : PyData) : Prop :=
  ∀ h : Heap, (∀ b o, h₀.get? b = some o → h.get? b = some o) → (∀ p ∈ news, h.get? p.1 = some p.2) → Reads h v d []
def LRs (h₀ : Heap) (news : List (Addr × Obj)) (vs : List Value) (ds : List PyData) : Prop :=
  ∀ h : Heap, (∀ b o, h₀.get? b = some o → h.get? b = some o) → (∀ p ∈ news, h.get? p.1 = some p.2) → ReadsAll h vs ds []
theorem readsAll_cons {h : Heap} {v : Value} {vs : List Value} {ds : List PyData} {as : List Addr} (x : ReadsAll h (v :: vs) ds as) (e : as = []) : ∃ d ds', ds = d :: ds' ∧ Reads h v d [] ∧ ReadsAll h vs ds' [] := by
  cases x with
  | cons r rs =>
    obtain ⟨rfl, rfl⟩ := List.append_eq_nil_iff.mp e
    exact ⟨_, _, rfl, r, rs⟩
theorem readsAll_at {h : Heap} : ∀ {vs : List Value} {ds : List PyData} {i : Nat} {v : Value}, ReadsAll h vs ds [] → vs[i]? = some v → ∃ d, ds[i]? = some d ∧ Reads h v d []
  | [], _, _, _, _, e => by cases e
  | v :: vs, ds, i, w, x, e => by
    obtain ⟨d, ds', rfl, r, rs⟩ := readsAll_cons x rfl
    cases i with
    | zero => cases e; exact ⟨d, rfl, r⟩
    | succ i => exact readsAll_at (i := i) rs e
theorem readsAll_len {h : Heap} : ∀ {vs : List Value} {ds : List PyData}, ReadsAll h vs ds [] → vs.length = ds.length
  | [], _, x => by cases x; rfl
  | v :: vs, ds, x => by
    obtain ⟨d, ds', rfl, r, rs⟩ := readsAll_cons x rfl
    rw [List.length_cons, List.length_cons, readsAll_len rs]
theorem LRs.snoc {h₀ : Heap} {news new : List (Addr × Obj)} {y : Value} {d : PyData} {vs : List Value} {ds : List PyData} (x : LRs h₀ news vs ds) (hy : LR h₀ (new ++ news) y d) : LRs h₀ (new ++ news) (vs ++ [y]) (ds ++ [d]) := by
  intro h k hm
  have xs := x h k fun p hp => hm p (List.mem_append_right _ hp)
  have ys := hy h k hm
  clear x hy hm k
  induction vs generalizing ds with
  | nil => cases xs; exact ReadsAll.cons ys .nil
  | cons v vs ih =>
    obtain ⟨d', ds', rfl, r, rs⟩ := readsAll_cons xs rfl
    exact ReadsAll.cons r (ih rs)
theorem off3_app {I C D : Addr} : ∀ {l l' : List (Addr × Obj)}, Off3 I C D l → Off3 I C D l' → Off3 I C D (l ++ l')
  | [], _, _, y => y
  | _ :: _, _, x, y => ⟨x.1, off3_app x.2 y⟩

section
variable {prog : Program} {w : World} {A : Around} {h₀ : Heap} {L : Addr} {m : Str → Option Value} {env : Env} {elt : PySem.Expr} {x : Str} {scope : Scope} {cl : List (Str × Addr)} {s : Shared} {S : List (Addr × Obj) → Prop} {P : Nat → Value → Prop} {Fin : List Value → List (Addr × Obj) → Prop}
theorem rest_all {nt : Nat} {Dt : Nat → PyData} {news0 : List (Addr × Obj)} (hS0 : S news0) (hS : ∀ new news, S news → S (new ++ news))
    (turn : ∀ i v I oI C oC D m₂ h tk ys news (Q' E' : Value → Shared → Prop), i < nt → P i v → NsObj oC m₂ → m₂ x = some v → Fr h₀ L h m → News h₀ L h ((I, oI) :: (C, oC) :: (D, lst ys) :: news) → (∀ p ∈ news0, p ∈ news) →
      (∀ y h' tk' new, Fr h₀ L h' m → News h₀ L h' (new ++ ((I, oI) :: (C, oC) :: (D, lst ys) :: news)) → (∀ q ∈ ((I, oI) :: (C, oC) :: (D, lst ys) :: news), ∀ p ∈ new, q.1 < p.1) → LR h₀ (new ++ news) y (Dt i) → Q' y { s with heap := h', toks := tk' }) →
      wpAny (model prog w) A (eval elt (compEnvC scope cl C env)) Q' E' { s with heap := h, toks := tk })
    (fin : ∀ ys news, LRs h₀ news ys ((List.range nt).map Dt) → (∀ p ∈ news0, p ∈ news) → Fin ys news) :
    CompRest prog w A h₀ L m env elt x scope cl s S P Fin nt 0 [] news0 := by
  have all : ∀ k i ys news, i + k = nt → LRs h₀ news ys ((List.range i).map Dt) → (∀ p ∈ news0, p ∈ news) → S news → CompRest prog w A h₀ L m env elt x scope cl s S P Fin k i ys news := by
    intro k
    induction k with
    | zero =>
      intro i ys news e hy sub _
      obtain rfl : i = nt := by omega
      exact CompRest.zero (fin ys news hy sub)
    | succ k ih =>
      intro i ys news e hy sub hSn
      refine CompRest.succ fun v I oI C oC D m₂ h tk E' hv hC hx F N off ne => ?_
      refine turn i v I oI C oC D m₂ h tk ys news _ E' (by omega) hv hC hx F N sub fun y h' tk' new F' N' lt hr => ?_
      refine ⟨h', tk', new ++ news, rfl, F', fun p hp => ?_, off3_app (Off3.of fun p hp => ⟨?_, ?_, ?_⟩) off, hS _ _ hSn, ih (i + 1) (ys ++ [y]) (new ++ news) (by omega) ?_ (fun p hp => List.mem_append_right _ (sub p hp)) (hS _ _ hSn)⟩
      · refine N' p ?_
        simp only [List.mem_append, List.mem_cons] at hp ⊢
        rcases hp with rfl | rfl | rfl | hp | hp
        · exact .inr (.inl rfl)
        · exact .inr (.inr (.inl rfl))
        · exact .inr (.inr (.inr (.inl rfl)))
        · exact .inl hp
        · exact .inr (.inr (.inr (.inr hp)))
      · exact Nat.ne_of_gt (lt (I, oI) (.head _) p hp)
      · exact Nat.ne_of_gt (lt (C, oC) (.tail _ (.head _)) p hp)
      · exact Nat.ne_of_gt (lt (D, lst ys) (.tail _ (.tail _ (.head _))) p hp)
      · rw [List.range_succ, List.map_append]
        exact hy.snoc hr
  exact all nt 0 [] news0 (by omega) (fun _ _ _ => .nil) (fun _ hp => hp) hS0
end
end Mine

end

section
open PySem PySem.W PyProof.Rows PySem.Calls
set_option Elab.async false
namespace Mine
open LCg
def Hold (P : Prop) : Prop := P
theorem hold {P : Prop} (h : Hold P) : P := h
local macro_rules | `(tactic| walk_at "call type:zip") => `(tactic| (k_here; (with_reducible show wpAny _ _ (call (Value.type "zip") _) _ _ _); refine hold ?_))
def varD (ns : List PyData) (tx : PyData) (vs : List PyData) : PyData := .tuple [.str (Str.ofString "var"), .int 30, .tuple ns, tx, .tuple vs]
theorem range_map {α : Type} {f : PyData → α} {ds : List PyData} {n : Nat} (h : n = ds.length) : (List.range n).map (fun i => f (ds.getD i .none)) = ds.map f := by
  subst h
  apply List.ext_getElem
  · simp
  · intro i h1 h2
    simp at h1 h2
    simp [h1]
theorem lt3 {L0 : List (Addr × Obj)} {d1 d2 d3 : Addr} {o1 o2 o3 : Obj} (h1 : AllLt d1 L0) (h2 : AllLt d2 ((d1, o1) :: L0)) (h3 : AllLt d3 ((d2, o2) :: (d1, o1) :: L0)) : ∀ q ∈ L0, ∀ p ∈ [(d3, o3), (d2, o2), (d1, o1)], q.1 < p.1 := by
  intro q hq p hp
  simp only [List.mem_cons, List.not_mem_nil, or_false] at hp
  rcases hp with rfl | rfl | rfl
  · exact ktn_ltOf h3 q (.tail _ (.tail _ hq))
  · exact ktn_ltOf h2 q (.tail _ hq)
  · exact ktn_ltOf h1 q hq
theorem nds_at {h : Heap} {vs : List Value} {ds : List PyData} {i : Nat} {v : Value} (r : ReadsAll h vs ds []) (e : vs[i]? = some v) : Reads h v (ds.getD i .none) [] := by
  obtain ⟨d, hd, rd⟩ := readsAll_at r e
  rw [List.getD_eq_getElem?_getD, hd]
  exact rd
local macro_rules | `(tactic| walk_at "eval ListComp") => `(tactic| (k_here; k_dflt (refine LCg.ListComp_U (F₀ := by k_asm) (by with_unfolding_all rfl) (by decide) (by rfl) (by decide) (by rfl) ?_)))
local macro_rules | `(tactic| walk_at "eval Name") => `(tactic| (k_here; (with_reducible show wpAny _ _ (eval (Expr.Name _ _) (compEnvC _ _ _ _)) _ _ _); k_dflt (refine' lcf_cell ?N ?c ?m ?d ?_ ?a ?b; (case a => rfl); (case b => rfl); (case c => rfl); (case N => k_asm); (case m => ((repeat (refine List.Mem.tail _ ?_)); assumption)); (case d => with_reducible assumption); k_whole)))
set_option maxRecDepth 100000 in
set_option maxHeartbeats 2000000 in
theorem split0 {w : World} {mean : ExcName → Option Value} {mg mb : Str → Option Value} {dp un : Nat} {gd : Option (List Code)} {cn : Str} {cs : Scope} {a : Addr} {ccd : Value} {cl : List (Str × Addr)} {outer : List Env} {A₀ : Around} {base h₀ : Heap} {L : Addr} {m : Str → Option Value} {s : Shared} {Q E : Value → Shared → Prop}
    (B : Below A₀ base outer h₀) (F : Fr h₀ L s.heap m) (X : (Mine.hd.heap_39 w.params).In h₀) (T : Top Mine.hd.view_39 (looseW Mine.hd.view_39 [Str.ofString "ChanError"]) mean mg mb h₀) (hk : cs.kind = .function)
    (hdp : dp + 4 < recursionLimit) (hun : un + 32 < cLine)
    {ln lv : Addr} {nvs vvs : Array Value} {txv : Value} {nds vds : List PyData} {txd : PyData}
    (hn : s.heap.IsList ln nvs) (hv : s.heap.IsList lv vvs) (rn : ReadsAll s.heap nvs.toList nds []) (rv : ReadsAll s.heap vvs.toList vds []) (rt : Reads s.heap txv txd [])
    (n0 : 1 ≤ nvs.size) (n1 : nvs.size ≤ 8) (m0 : vvs = #[])
    (ret : ∀ r as h' tk', (∀ b o, s.heap.get? b = some o → h'.get? b = some o) → Reads h' r (.list (nds.map fun n => varD [n] txd [])) as → Q r { s with heap := h', toks := tk' }) :
    wpAny (model Challenge.rw_xm0163_01.row.prog w) (ktrTop dp un gd cn cs L a ccd cl outer) (call (.ref 92) [.ref ln, txv, .ref lv]) Q E s := by
  subst m0
  revert X; k_fill; intro X
  refine wpAny_call ?_
  refine' enter0C B F X T rfl rfl hk ?k6 ?k7 ?k8 ?k9 ?kB ?kD ?_ ?c2 ?c3 ?c4
  case k6 => k_is
  case k7 => k_is
  case k8 => ktr_room
  case k9 => exact BindsTo.of_eq rfl
  case kB => exact rfl
  case kD => decide +kernel
  case c2 => exact rfl
  case c3 => exact rfl
  case c4 => exact rfl
  intro L' h' tk' cells' F' N' Y' B' X' T'
  k_cells Y'
  (try simp only [List.cons_append, List.nil_append] at N')
  rename (_ = Data.cell _) => d1
  replace d1 : _ = Data.cell (some txv) := d1
  clear F X T
  (try dsimp only)
  (try k_fold)
  w_top off
  k_steps
  refine LCg.CompSrc.base (by rfl) (by k_asm) (by k_asm) hn (by size_fits) ?_
  intro g'
  refine rest_all (Dt := fun i => varD [nds.getD i .none] txd []) (Or.inl hn) (fun _ _ h => .inl hn) ?turn ?fin
  case turn =>
    intro i v I oI C oC D m₂ h tk ys news Q' E' hi hv hC hx F' N' sub hQ'
    have hc := sub _ (.head _)
    k_steps
    refine hQ' _ _ _ [_, _, _] (by assumption) (by assumption) (lt3 (by assumption) (by assumption) (by assumption)) ?_
    intro h9 k9 hm9
    have hvn := Reads.keeps k9 (nds_at rn (by simpa using hv))
    exact Reads.tuple (hm9 _ (.head _)) rfl rfl (.cons (.str _ _) (.cons (.int _ _) (.cons (Reads.tuple (hm9 _ (.tail _ (.tail _ (.head _)))) rfl rfl (.cons hvn .nil)) (.cons (Reads.keeps k9 rt) (.cons (Reads.tuple (hm9 _ (.tail _ (.head _))) rfl rfl .nil) .nil)))))
  case fin =>
    intro ys news hys sub
    unfold FinE
    intro D h tk F' N' off
    (try dsimp only)
    k_steps
    refine ⟨_, _, _, F', N', fun _ _ => ret _ _ _ _ F'.keep (Reads.list (as := []) (N' _ (.head _)).1 rfl rfl ?_)⟩
    have := hys h F'.keep fun p hp => (N' p (.tail _ hp)).1
    rw [range_map (f := fun n => varD [n] txd []) (by simpa using readsAll_len rn)] at this
    exact this

theorem tup_of {prog : Program} {w : World} {A : Around} {E : Value → Shared → Prop} {s : Shared} {h₀ : Heap} {L l : Addr} {m : Str → Option Value} {news : List (Addr × Obj)} {items : Array Value} {Q : Value → Shared → Prop} (F : Fr h₀ L s.heap m) (N : News h₀ L s.heap news) (hl : s.heap.IsList l items) (hz : items.size ≤ 16384)
    (h : ∀ D h', Fr h₀ L h' m → News h₀ L h' ((D, ({ cls := .type "tuple", data := .seq items } : Obj)) :: news) → (∀ p ∈ news, p.1 < D) → Q (.ref D) { s with heap := h' }) : wpAny (model prog w) A (call (.type "tuple") [.ref l]) Q E s :=
  kde_tupleOf F N hl hz rfl h

theorem five {h : Heap} {b1 b2 b3 b4 b5 : Addr} {o1 o2 o3 o4 o5 : Obj} (e1 : h.get? b1 = some o1) (e2 : h.get? b2 = some o2) (e3 : h.get? b3 = some o3) (e4 : h.get? b4 = some o4) (e5 : h.get? b5 = some o5) :
    ∃ its : List (Addr × Obj), (∀ b ∈ [b1, b2, b3, b4, b5], ∃ o, (b, o) ∈ its ∧ h.get? b = some o) ∧ ∀ p ∈ its, p.1 ∈ [b1, b2, b3, b4, b5] ∧ h.get? p.1 = some p.2 := by
  refine ⟨[(b1, o1), (b2, o2), (b3, o3), (b4, o4), (b5, o5)], fun b hb => ?_, fun p hp => ?_⟩
  · simp only [List.mem_cons, List.not_mem_nil, or_false] at hb
    rcases hb with rfl | rfl | rfl | rfl | rfl
    · exact ⟨_, .head _, e1⟩
    · exact ⟨_, .tail _ (.head _), e2⟩
    · exact ⟨_, .tail _ (.tail _ (.head _)), e3⟩
    · exact ⟨_, .tail _ (.tail _ (.tail _ (.head _))), e4⟩
    · exact ⟨_, .tail _ (.tail _ (.tail _ (.tail _ (.head _)))), e5⟩
  · simp only [List.mem_cons, List.not_mem_nil, or_false] at hp
    rcases hp with rfl | rfl | rfl | rfl | rfl
    · exact ⟨.head _, e1⟩
    · exact ⟨.tail _ (.head _), e2⟩
    · exact ⟨.tail _ (.tail _ (.head _)), e3⟩
    · exact ⟨.tail _ (.tail _ (.tail _ (.head _))), e4⟩
    · exact ⟨.tail _ (.tail _ (.tail _ (.tail _ (.head _)))), e5⟩
section
variable {prog : Program} {w : World} {A : Around} {E : Value → Shared → Prop} {s : Shared} {h₀ : Heap} {L : Addr} {m : Str → Option Value} {env : Env}
theorem zip_block {elt iter : PySem.Expr} {x x₂ : Str} {px px₂ tp : Pos} {kk : Nat} {scope : Scope} {cl : List (Str × Addr)} {pos : Pos} {s₂ : Shared} {z TI TO i1 i2 l1 l2 : Addr} {xs zs : Array Value} {n : Nat} {Dt : Nat → PyData} {news0 : List (Addr × Obj)} {RR : Value → Addr → Result → Shared → Prop}
    (hh : A.handled = none) (Ap : ZipApart z TI TO i1 i2 l1 l2) (hn : min xs.size zs.size = n) (hsz : n ≤ sizeLine)
    (hz : IsZip s₂.heap z TI TO .none) (hTI : IsPair s₂.heap TI (.ref i1) (.ref i2)) (hTO : IsPair s₂.heap TO .none .none) (h1 : s₂.heap.IsListIter i1 l1 0) (h2 : s₂.heap.IsListIter i2 l2 0)
    (hl1 : h₀.IsList l1 xs) (hl2 : h₀.IsList l2 zs)
    (hcell : ∀ y ∈ scope.names, y.2 ≠ .cell) (hkind : scope.kind = .function) (hx : scope.names.lookup x = some .local) (hx₂ : scope.names.lookup x₂ = some .local) (hxx : ¬ x = x₂)
    (F : Fr h₀ L s₂.heap m) (N : News h₀ L s₂.heap news0) (hf : ∀ b ∈ [z, TI, TO, i1, i2], h₀.get? b = none ∧ b ≠ L ∧ ∀ p ∈ news0, p.1 ≠ b)
    (turn : ∀ i v1 v2 C oC D m₂ h tk ys rest (Q' E' : Value → Shared → Prop), i < n → xs[i]? = some v1 → zs[i]? = some v2 → NsObj oC m₂ → m₂ x = some v1 → m₂ x₂ = some v2 → Fr h₀ L h m → News h₀ L h ((C, oC) :: (D, lst ys) :: rest) → (∀ p ∈ news0, p ∈ rest) →
      (∀ y h' tk' new, Fr h₀ L h' m → News h₀ L h' (new ++ ((C, oC) :: (D, lst ys) :: rest)) → (∀ q ∈ ((C, oC) :: (D, lst ys) :: rest), ∀ p ∈ new, q.1 < p.1) → LR h₀ new y (Dt i) → Q' y { s₂ with heap := h', toks := tk' }) →
      wpAny (model prog w) A (eval elt (compEnvC scope cl C env)) Q' E' { s₂ with heap := h, toks := tk })
    (hRR : ∀ D C h tk m' ys news', Fr h₀ L h m → News h₀ L h ((D, lst ys) :: news') → h.Ns C m' → h₀.get? C = none → C ≠ L → C ≠ D → (∀ p ∈ news', p.1 ≠ C) → LRs h₀ news' ys ((List.range n).map Dt) → RR (.ref D) C (.ok .next) { s₂ with heap := h, toks := tk }) :
    wpAny (model prog w) A (newList []) (fun acc s₃ => wpAny (model prog w) A (newFunctionEnv scope env.globals cl [] env.qual none .none (some env)) (fun cenv s₄ =>
      codeAny (model prog w) A (.compStart (.ListComp elt [⟨.Tuple [.Name x px, .Name x₂ px₂] kk tp, iter, [], 0⟩] scope pos) 0 (.ref z) acc { cenv with scope := relabel scope env }) (RR acc cenv.locals) s₄) E s₃) E s₂ := by
  refine wpAny_newObj_type (wpAny_newFunctionEnv hcell (by intro y hy; simp at hy) (fun h₁ hns₁ hsb₁ => ?_) hkind)
  dsimp only at hns₁ hsb₁ ⊢
  generalize hH2 : s₂.heap.push { cls := .type "list", dict := none, data := .seq ([] : List Value).toArray } = H2 at hns₁ hsb₁ ⊢
  have hC : H2.objs.size = s₂.heap.objs.size + 1 := by rw [← hH2, Heap.size_push]
  have hDC : s₂.heap.objs.size ≠ H2.objs.size := by rw [hC]; exact Nat.ne_of_lt (Nat.lt_succ_self _)
  have below : ∀ b, b < s₂.heap.objs.size → b ≠ H2.objs.size ∧ b ≠ s₂.heap.objs.size := fun b hb => ⟨by rw [hC]; exact Nat.ne_of_lt (Nat.lt_succ_of_lt hb), Nat.ne_of_lt hb⟩
  have old : ∀ b o, s₂.heap.get? b = some o → h₁.get? b = some o := fun b o e => hsb₁.extBut b o (below b (Heap.lt_size e)).1 (Heap.get?_push_of_some _ (hH2 ▸ Heap.get?_push_of_some _ e))
  have hacc : h₁.get? s₂.heap.objs.size = some (lst []) := hsb₁.extBut _ _ hDC (Heap.get?_push_of_some _ (hH2 ▸ Heap.get?_push_size _ rfl))
  have fresh₀ : ∀ a, s₂.heap.objs.size ≤ a → h₀.get? a = none := fun a ha => by
    cases e : h₀.get? a with
    | none => rfl
    | some o' => exact absurd (Heap.lt_size (F.keep a o' e)) (Nat.not_lt.mpr ha)
  have hD₀ : h₀.get? s₂.heap.objs.size = none := fresh₀ _ (Nat.le_refl _)
  have hC₀ : h₀.get? H2.objs.size = none := fresh₀ _ (by rw [hC]; exact Nat.le_succ _)
  have hLlt : L < s₂.heap.objs.size := F.ns.lt
  have hDL : s₂.heap.objs.size ≠ L := Ne.symm (below L hLlt).2
  have hCL : H2.objs.size ≠ L := Ne.symm (below L hLlt).1
  have l1s : s₂.heap.IsList l1 xs := let ⟨o, e, r⟩ := hl1; ⟨o, F.keep _ _ e, r⟩
  have l2s : s₂.heap.IsList l2 zs := let ⟨o, e, r⟩ := hl2; ⟨o, F.keep _ _ e, r⟩
  have flt : ∀ b ∈ [z, TI, TO, i1, i2, l1, l2], b < s₂.heap.objs.size := by
    intro b hb
    simp only [List.mem_cons, List.not_mem_nil, or_false] at hb
    rcases hb with rfl | rfl | rfl | rfl | rfl | rfl | rfl
    · exact Heap.lt_size hz
    · exact Heap.lt_size hTI
    · exact Heap.lt_size hTO
    · obtain ⟨_, e, _⟩ := h1; exact Heap.lt_size e
    · obtain ⟨_, e, _⟩ := h2; exact Heap.lt_size e
    · obtain ⟨_, e, _⟩ := l1s; exact Heap.lt_size e
    · obtain ⟨_, e, _⟩ := l2s; exact Heap.lt_size e
  have W := WalksT.zip2 (prog := prog) (w := w) hh z TI TO i1 i2 l1 l2 Ap xs zs
  rw [hn] at W
  have wsub : ∀ b ∈ [z, TO, i1, i2], b ∈ [z, TI, TO, i1, i2] := by
    intro b hb
    simp only [List.mem_cons, List.not_mem_nil, or_false] at hb ⊢
    rcases hb with rfl | rfl | rfl | rfl <;> simp
  have fsub : ∀ b ∈ [z, TI, TO, i1, i2], b ∈ [z, TI, TO, i1, i2, l1, l2] := by
    intro b hb
    simp only [List.mem_cons, List.not_mem_nil, or_false] at hb ⊢
    rcases hb with rfl | rfl | rfl | rfl | rfl <;> simp
  have hCf : ∀ b ∈ [z, TI, TO, i1, i2, l1, l2], b ≠ H2.objs.size ∧ b ≠ s₂.heap.objs.size := fun b hb => below b (flt b hb)
  have loop : ∀ s₃ : Shared, s₃ = { s₂ with heap := h₁, toks := s₂.toks + ([] : List (Str × Value)).length } →
      codeAny (model prog w) A (.compLoop (.ListComp elt [⟨.Tuple [.Name x px, .Name x₂ px₂] kk tp, iter, [], 0⟩] scope pos) 0 (.ref z) (.ref s₂.heap.objs.size) (compEnvC scope cl H2.objs.size env))
        (RR (.ref s₂.heap.objs.size) H2.objs.size) s₃ := by
    rintro s₃ rfl
    refine kcp_loop
      (fun k s' => ∃ h' tk i ys m' news', s' = { s₂ with heap := h', toks := tk } ∧ i ≤ n ∧ k = n + 1 - i ∧ ys.length = i ∧
        (IsZip h' z TI TO .none ∧ IsPair h' TI (.ref i1) (.ref i2) ∧ (∃ a b, IsPair h' TO a b) ∧ h'.IsListIter i1 l1 i ∧ h'.IsListIter i2 l2 i ∧ h'.IsList l1 xs ∧ h'.IsList l2 zs) ∧
        Fr h₀ L h' m ∧ h'.Ns H2.objs.size m' ∧ News h₀ L h' ((s₂.heap.objs.size, lst ys) :: news') ∧
        (∀ p ∈ news', p.1 ∉ [z, TI, TO, i1, i2] ∧ p.1 ≠ H2.objs.size ∧ p.1 ≠ s₂.heap.objs.size) ∧ LRs h₀ news' ys ((List.range i).map Dt) ∧ (∀ p ∈ news0, p ∈ news')) ?_ (n + 1)
      ⟨h₁, _, 0, [], _, news0, rfl, Nat.zero_le _, rfl, rfl, W.frame _ _ _ ⟨hz, hTI, ⟨_, _, hTO⟩, h1, h2, l1s, l2s⟩ (fun b _ o e => old b o e), F.keeps old, hns₁, fun p hp => ?_, fun p hp => ⟨fun hm => (hf _ hm).2.2 p hp rfl, below _ (Heap.lt_size (N p hp).1)⟩, fun _ _ _ => .nil, fun _ hp => hp⟩
    · rintro k s' ⟨h', tk, i, ys, m', news', rfl, hi, rfl, hyl, hst', F', hn', N', off', hL', sub'⟩
      by_cases hlt : i < n
      · refine W.item i _ _ _ hlt hst' fun T vals h₂ tk₂ hP hTge hT hMd hk₂ => ?_
        obtain ⟨v1, v2, e1, e2, rfl⟩ := hP
        have hTw := W.apart _ _ _ hMd
        refine W.go _ _ _ i T _ _ _ hMd fun h₃ hst₃ hk₃ => ?_
        have hT₃ : h₃.IsTuple T #[v1, v2] := by
          obtain ⟨o, e, r⟩ := hT
          exact ⟨o, hk₃ _ _ hTw e, r⟩
        have up₃ : ∀ c o, c ∉ [z, TO, i1, i2] → h'.get? c = some o → h₃.get? c = some o := fun c o hc e => hk₃ c o hc (hk₂ c o hc e)
        refine kcp_assign (env := compEnvC scope cl H2.objs.size env) hh hT₃ (lookup_relabel_local hx) (lookup_relabel_local hx₂) (by simp [compEnvC, relabel, hkind]) (hn'.at' fun o e => up₃ _ o (fun hm => (hCf _ (fsub _ (wsub _ hm))).1 rfl) e) fun h₄ tk₄ hn₄ hs₄ => ?_
        have up : ∀ c o, c ∉ [z, TO, i1, i2] → c ≠ H2.objs.size → h'.get? c = some o → h₄.get? c = some o := fun c o h1 h2 e => hs₄ c o h2 (up₃ c o h1 e)
        have hst₄ := W.frame _ _ h₄ hst₃ fun b hb o e => hs₄ b o (hCf b hb).1 e
        obtain ⟨oC, heC, hoC⟩ := ns_obj hn₄
        have F₄ : Fr h₀ L h₄ m := ⟨F'.ns.at' fun o e => up _ o (fun hm => (hf _ (wsub _ hm)).2.1 rfl) (Ne.symm hCL) e, fun c o e => up c o (fun hm => by rw [(hf _ (wsub _ hm)).1] at e; cases e) (fun q => by rw [q, hC₀] at e; cases e) (F'.keep c o e), F'.above⟩
        obtain ⟨its, hits, hits'⟩ : ∃ its : List (Addr × Obj), (∀ b ∈ [z, TI, TO, i1, i2], ∃ o, (b, o) ∈ its ∧ h₄.get? b = some o) ∧ ∀ p ∈ its, p.1 ∈ [z, TI, TO, i1, i2] ∧ h₄.get? p.1 = some p.2 := by
          obtain ⟨a1, a2, ⟨_, _, a3⟩, ⟨_, a4, _⟩, ⟨_, a5, _⟩, _⟩ := hst₄
          exact five a1 a2 a3 a4 a5
        have N₄ : News h₀ L h₄ ((H2.objs.size, oC) :: (s₂.heap.objs.size, lst ys) :: (its ++ news')) := fun q hq => by
          rcases List.mem_cons.mp hq with rfl | hq
          · exact ⟨heC, hCL, hC₀⟩
          · rcases List.mem_cons.mp hq with rfl | hq
            · have y := N' _ (.head _)
              exact ⟨up _ _ (fun hm => (hCf _ (fsub _ (wsub _ hm))).2 rfl) hDC y.1, y.2⟩
            · rcases List.mem_append.mp hq with hq | hq
              · have y := hits' q hq
                exact ⟨y.2, (hf _ y.1).2.1, (hf _ y.1).1⟩
              · have y := N' q (.tail _ hq)
                exact ⟨up _ _ (fun hm => (off' q hq).1 (wsub _ hm)) (off' q hq).2.1 y.1, y.2⟩
        refine wpAny_mono (turn i v1 v2 _ oC _ _ h₄ tk₄ ys (its ++ news') (fun y s₅ => _) _ hlt e1 e2 hoC (by simp [hxx]) (by simp) F₄ N₄ (fun p hp => List.mem_append_right _ (sub' p hp)) fun y h₅ tk₅ new F₅ N₅ lt hr => ?_) (fun y s₅ h => h) fun _ _ e => e
        have zC := (N₅ (H2.objs.size, oC) (List.mem_append_right _ (.head _))).1
        have zD := (N₅ (s₂.heap.objs.size, lst ys) (List.mem_append_right _ (.tail _ (.head _)))).1
        have hst₅ := W.frame _ _ h₅ hst₄ fun b hb o e => by
          by_cases hm : b ∈ [z, TI, TO, i1, i2]
          · obtain ⟨o', ho', he'⟩ := hits b hm
            obtain rfl := Option.some.inj (he'.symm.trans e)
            exact (N₅ (b, o') (List.mem_append_right _ (.tail _ (.tail _ (List.mem_append_left _ ho'))))).1
          · have : b = l1 ∨ b = l2 := by
              simp only [List.mem_cons, List.not_mem_nil, or_false, not_or] at hb hm
              obtain ⟨m1, m2, m3, m4, m5⟩ := hm
              rcases hb with h | h | h | h | h | h | h
              · exact absurd h m1
              · exact absurd h m2
              · exact absurd h m3
              · exact absurd h m4
              · exact absurd h m5
              · exact .inl h
              · exact .inr h
            rcases this with rfl | rfl
            · obtain ⟨o', ho', _⟩ := hl1
              obtain rfl := Option.some.inj ((F₄.keep _ _ ho').symm.trans e)
              exact F₅.keep _ _ ho'
            · obtain ⟨o', ho', _⟩ := hl2
              obtain rfl := Option.some.inj ((F₄.keep _ _ ho').symm.trans e)
              exact F₅.keep _ _ ho'
        refine append_at (hsz := by show ys.toArray.size ≤ sizeLine; rw [List.size_toArray, hyl]; exact Nat.le_trans hi hsz) zD fun h₆ hs₆ hD₆ => ?_
        have newoff : ∀ p ∈ new, p.1 ∉ [z, TI, TO, i1, i2] ∧ p.1 ≠ H2.objs.size ∧ p.1 ≠ s₂.heap.objs.size := fun p hp => by
          refine ⟨fun hm => ?_, Nat.ne_of_gt (lt _ (.head _) p hp), Nat.ne_of_gt (lt _ (.tail _ (.head _)) p hp)⟩
          obtain ⟨o', ho', _⟩ := hits _ hm
          exact absurd (lt _ (.tail _ (.tail _ (List.mem_append_left _ ho'))) p hp) (Nat.lt_irrefl _)
        refine ⟨n + 1 - (i + 1), by omega, h₆, tk₅, i + 1, ys ++ [y], _, new ++ news', rfl, hlt, rfl, by rw [List.length_append, List.length_singleton, hyl], W.frame _ _ _ hst₅ fun b hb o e => hs₆.extBut b o (fun q => (hCf b hb).2 q) e, F₅.change hs₆ hDL hD₀,
          (hoC.ns zC).sameBut hs₆ (Ne.symm hDC), fun q hq => ?_, fun q hq => ?_, ?_, fun p hp => List.mem_append_right _ (sub' p hp)⟩
        · rcases List.mem_cons.mp hq with rfl | hq
          · exact ⟨hD₆.trans (congrArg some (lst_snoc ys y)), hDL, hD₀⟩
          · rcases List.mem_append.mp hq with hq | hq
            · have y := N₅ q (List.mem_append_left _ hq)
              exact ⟨hs₆.extBut _ _ (newoff q hq).2.2 y.1, y.2⟩
            · have y := N₅ q (List.mem_append_right _ (.tail _ (.tail _ (List.mem_append_right _ hq))))
              exact ⟨hs₆.extBut _ _ (off' q hq).2.2 y.1, y.2⟩
        · rcases List.mem_append.mp hq with hq | hq
          · exact newoff q hq
          · exact off' q hq
        · rw [List.range_succ, List.map_append]
          exact hL'.snoc fun h k hm => hr h k fun p hp => hm p (List.mem_append_left _ hp)
      · obtain rfl : i = n := Nat.le_antisymm hi (Nat.not_lt.mp hlt)
        refine W.done _ _ _ hst' fun h₂ tk₂ hk₂ => ?_
        refine hRR _ _ h₂ tk₂ _ ys news' ⟨F'.ns.at' fun o e => hk₂ _ o (fun hm => (hf _ (wsub _ hm)).2.1 rfl) e, fun c o e => hk₂ c o (fun hm => by rw [(hf _ (wsub _ hm)).1] at e; cases e) (F'.keep c o e), F'.above⟩ (fun p hp => ?_) (hn'.at' fun o e => hk₂ _ o (fun hm => (hCf _ (fsub _ (wsub _ hm))).1 rfl) e) hC₀ hCL (Ne.symm hDC) (fun p hp => (off' p hp).2.1) hL'
        have y := N' p hp
        refine ⟨hk₂ _ _ (fun hm => ?_) y.1, y.2⟩
        rcases List.mem_cons.mp hp with rfl | hp
        · exact (hCf _ (fsub _ (wsub _ hm))).2 rfl
        · exact (off' p hp).1 (wsub _ hm)
    · rcases List.mem_cons.mp hp with rfl | hp
      · exact ⟨hacc, hDL, hD₀⟩
      · exact ⟨old _ _ (N p hp).1, (N p hp).2⟩
  have hz₁ : IsZip h₁ z TI TO .none := old _ _ hz
  exact codeAny_compStart_list (loop _ rfl) (wpAny_pyIter_zip hz₁ (loop _ rfl))
end

local macro_rules | `(tactic| walk_at "ite") => `(tactic| (k_here; first | (with_reducible refine ite_neg (by simp only [beq_iff_eq, decide_eq_true_eq]; omega) ?_) | (with_reducible refine ite_pos (by simp only [beq_iff_eq, decide_eq_true_eq]; omega) ?_)))
local macro_rules | `(tactic| walk_at "call type:tuple") => `(tactic| (k_here; (with_reducible show wpAny _ _ (call (Value.type _) [Value.ref _]) _ _ _); k_dflt (refine' tup_of ?k1 ?k2 ?k3 ?k4 ?_; (case k1 => k_asm); (case k2 => k_asm); (case k3 => is_list); (case k4 => omega); k_whole); intro D' h' F' N' l1; (try k_lt l1); (try k_sweep)))
set_option maxRecDepth 100000 in
set_option maxHeartbeats 2000000 in
theorem split1 {w : World} {mean : ExcName → Option Value} {mg mb : Str → Option Value} {dp un : Nat} {gd : Option (List Code)} {cn : Str} {cs : Scope} {a : Addr} {ccd : Value} {cl : List (Str × Addr)} {outer : List Env} {A₀ : Around} {base h₀ : Heap} {L : Addr} {m : Str → Option Value} {s : Shared} {Q E : Value → Shared → Prop}
    (B : Below A₀ base outer h₀) (F : Fr h₀ L s.heap m) (X : (Mine.hd.heap_39 w.params).In h₀) (T : Top Mine.hd.view_39 (looseW Mine.hd.view_39 [Str.ofString "ChanError"]) mean mg mb h₀) (hk : cs.kind = .function)
    (hdp : dp + 4 < recursionLimit) (_hun : un + 32 < cLine)
    {ln lv : Addr} {nvs vvs : Array Value} {txv : Value} {nds vds : List PyData} {txd : PyData}
    (hn : s.heap.IsList ln nvs) (hv : s.heap.IsList lv vvs) (rn : ReadsAll s.heap nvs.toList nds []) (rv : ReadsAll s.heap vvs.toList vds []) (rt : Reads s.heap txv txd [])
    (n0 : 1 ≤ nvs.size) (n1 : nvs.size ≤ 8) (m1 : vvs.size ≤ 8)
    (hm : vvs.size = 1) (hne : nvs.size ≠ 1)
    (ret : ∀ r as h' tk', (∀ b o, s.heap.get? b = some o → h'.get? b = some o) → Reads h' r (.list [varD nds txd vds]) as → Q r { s with heap := h', toks := tk' }) :
    wpAny (model Challenge.rw_xm0163_01.row.prog w) (ktrTop dp un gd cn cs L a ccd cl outer) (call (.ref 92) [.ref ln, txv, .ref lv]) Q E s := by
  revert X; k_fill; intro X
  refine wpAny_call ?_
  refine' enter0C B F X T rfl rfl hk ?k6 ?k7 ?k8 ?k9 ?kB ?kD ?_ ?c2 ?c3 ?c4
  case k6 => k_is
  case k7 => k_is
  case k8 => ktr_room
  case k9 => exact BindsTo.of_eq rfl
  case kB => exact rfl
  case kD => decide +kernel
  case c2 => exact rfl
  case c3 => exact rfl
  case c4 => exact rfl
  intro L' h' tk' cells' F' N' Y' B' X' T'
  k_cells Y'
  (try simp only [List.cons_append, List.nil_append] at N')
  clear F X T
  rename (_ = Data.cell _) => d1
  replace d1 : _ = Data.cell (some txv) := d1
  (try dsimp only)
  (try k_fold)
  w_top off
  k_steps
  rename Fr _ _ _ _ => F9
  rename News _ _ _ _ => N9
  refine ⟨_, _, _, F9, N9, fun _ _ => ?_⟩
  refine ret _ _ _ _ F9.keep (Reads.list (as := []) (N9 _ (.head _)).1 rfl rfl (.cons (Reads.tuple (N9 _ (.tail _ (.head _))).1 rfl rfl (.cons (.str _ _) (.cons (.int _ _) (.cons (Reads.tuple (N9 _ (.tail _ (.tail _ (.tail _ (.head _))))).1 rfl rfl (ReadsAll.keeps F9.keep rn)) (.cons (Reads.keeps F9.keep rt) (.cons (Reads.tuple (N9 _ (.tail _ (.tail _ (.head _)))).1 rfl rfl (ReadsAll.keeps F9.keep rv)) .nil)))))) .nil))
set_option maxRecDepth 100000 in
set_option maxHeartbeats 2000000 in
theorem split2 {w : World} {mean : ExcName → Option Value} {mg mb : Str → Option Value} {dp un : Nat} {gd : Option (List Code)} {cn : Str} {cs : Scope} {a : Addr} {ccd : Value} {cl : List (Str × Addr)} {outer : List Env} {A₀ : Around} {base h₀ : Heap} {L : Addr} {m : Str → Option Value} {s : Shared} {Q E : Value → Shared → Prop}
    (B : Below A₀ base outer h₀) (F : Fr h₀ L s.heap m) (X : (Mine.hd.heap_39 w.params).In h₀) (T : Top Mine.hd.view_39 (looseW Mine.hd.view_39 [Str.ofString "ChanError"]) mean mg mb h₀) (hk : cs.kind = .function)
    (hdp : dp + 4 < recursionLimit) (_hun : un + 32 < cLine)
    {ln lv : Addr} {nvs vvs : Array Value} {txv : Value} {nds vds : List PyData} {txd : PyData}
    (hn : s.heap.IsList ln nvs) (hv : s.heap.IsList lv vvs) (rn : ReadsAll s.heap nvs.toList nds []) (rv : ReadsAll s.heap vvs.toList vds []) (rt : Reads s.heap txv txd [])
    (n0 : 1 ≤ nvs.size) (n1 : nvs.size ≤ 8) (m1 : vvs.size ≤ 8)
    (hm : 2 ≤ vvs.size) (hne : vvs.size ≠ nvs.size)
    (ret : ∀ r as h' tk', (∀ b o, s.heap.get? b = some o → h'.get? b = some o) → Reads h' r (.str (Str.ofString "fault")) as → Q r { s with heap := h', toks := tk' }) :
    wpAny (model Challenge.rw_xm0163_01.row.prog w) (ktrTop dp un gd cn cs L a ccd cl outer) (call (.ref 92) [.ref ln, txv, .ref lv]) Q E s := by
  revert X; k_fill; intro X
  refine wpAny_call ?_
  refine' enter0C B F X T rfl rfl hk ?k6 ?k7 ?k8 ?k9 ?kB ?kD ?_ ?c2 ?c3 ?c4
  case k6 => k_is
  case k7 => k_is
  case k8 => ktr_room
  case k9 => exact BindsTo.of_eq rfl
  case kB => exact rfl
  case kD => decide +kernel
  case c2 => exact rfl
  case c3 => exact rfl
  case c4 => exact rfl
  intro L' h' tk' cells' F' N' Y' B' X' T'
  k_cells Y'
  (try simp only [List.cons_append, List.nil_append] at N')
  clear F X T
  rename (_ = Data.cell _) => d1
  replace d1 : _ = Data.cell (some txv) := d1
  (try dsimp only)
  (try k_fold)
  k_steps
  exact ⟨_, _, _, F', N', fun _ _ => ret _ _ _ _ F'.keep (.str _ _)⟩

section
variable {prog : Program} {w : World} {A : Around} {E : Value → Shared → Prop} {s : Shared} {h₀ : Heap} {L : Addr} {m : Str → Option Value} {env : Env}
def ZSrc (prog : Program) (w : World) (A : Around) (h₀ : Heap) (L : Addr) (m : Str → Option Value) (env : Env) (elt : PySem.Expr) (x x₂ : Str) (scope : Scope) (cl : List (Str × Addr)) (Q : Value → Shared → Prop) (xv : Value) (s₂ : Shared) : Prop :=
  ∃ (z TI TO i1 i2 l1 l2 : Addr) (xs zs : Array Value) (n : Nat) (Dt : Nat → PyData) (news0 : List (Addr × Obj)), xv = .ref z ∧ A.handled = none ∧ ZipApart z TI TO i1 i2 l1 l2 ∧ min xs.size zs.size = n ∧ n ≤ sizeLine ∧
    (IsZip s₂.heap z TI TO .none ∧ IsPair s₂.heap TI (.ref i1) (.ref i2) ∧ IsPair s₂.heap TO .none .none ∧ s₂.heap.IsListIter i1 l1 0 ∧ s₂.heap.IsListIter i2 l2 0) ∧
    (h₀.IsList l1 xs ∧ h₀.IsList l2 zs) ∧ Fr h₀ L s₂.heap m ∧ News h₀ L s₂.heap news0 ∧ (∀ b ∈ [z, TI, TO, i1, i2], h₀.get? b = none ∧ b ≠ L ∧ ∀ p ∈ news0, p.1 ≠ b) ∧
    (∀ i v1 v2 C oC D m₂ h tk ys rest (Q' E' : Value → Shared → Prop), i < n → xs[i]? = some v1 → zs[i]? = some v2 → NsObj oC m₂ → m₂ x = some v1 → m₂ x₂ = some v2 → Fr h₀ L h m → News h₀ L h ((C, oC) :: (D, lst ys) :: rest) → (∀ p ∈ news0, p ∈ rest) →
      (∀ y h' tk' new, Fr h₀ L h' m → News h₀ L h' (new ++ ((C, oC) :: (D, lst ys) :: rest)) → (∀ q ∈ ((C, oC) :: (D, lst ys) :: rest), ∀ p ∈ new, q.1 < p.1) → LR h₀ new y (Dt i) → Q' y { s₂ with heap := h', toks := tk' }) →
      wpAny (model prog w) A (eval elt (compEnvC scope cl C env)) Q' E' { s₂ with heap := h, toks := tk }) ∧
    (∀ D h tk ys news', Fr h₀ L h m → News h₀ L h ((D, lst ys) :: news') → LRs h₀ news' ys ((List.range n).map Dt) → Q (.ref D) { s₂ with heap := h, toks := tk })

theorem ListComp_zip {elt iter : PySem.Expr} {x x₂ : Str} {px px₂ tp : Pos} {kk : Nat} {scope : Scope} {cl : List (Str × Addr)} {pos : Pos} {Q : Value → Shared → Prop} (_F₀ : Fr h₀ L s.heap m)
    (hclos : closureFor scope env = pure cl) (hcell : ∀ y ∈ scope.names, y.2 ≠ .cell) (hkind : scope.kind = .function)
    (hnames : ∀ y ∈ scope.names, y.2 = .local → scope.names.lookup y.1 = some .local) (hx : scope.names.lookup x = some .local) (hx₂ : scope.names.lookup x₂ = some .local) (hxx : ¬ x = x₂)
    (h : wpAny (model prog w) A (eval iter env) (ZSrc prog w A h₀ L m env elt x x₂ scope cl Q) E s)
    (hs : ∀ x, foldedSetIterable iter env x = pure x := by intro _; rfl) :
    wpAny (model prog w) A (eval (.ListComp elt [⟨.Tuple [.Name x px, .Name x₂ px₂] kk tp, iter, [], 0⟩] scope pos) env) Q E s := by
  rw [eval_ListComp]
  refine wpAny_comprehension_free (use := none) rfl hs hclos hkind hnames (wpAny_mono h (fun xv s₁ h₁ => ?_) fun _ _ e => e)
  obtain ⟨z, TI, TO, i1, i2, l1, l2, xs, zs, n, Dt, news0, rfl, hh, Ap, hn, hsz, ⟨a1, a2, a3, a4, a5⟩, ⟨hl1, hl2⟩, F, N, hf, turn, fin⟩ := h₁
  refine wpAny_pyIter_zip a1 ?_
  refine zip_block (Dt := Dt) hh Ap hn hsz a1 a2 a3 a4 a5 hl1 hl2 hcell hkind hx hx₂ hxx F N hf turn ?_
  intro D C h tk m' ys news' F' N' hn hC₀ hCL hCD offC fin'
  refine ⟨m', hn, fun h'' hs'' => fin D h'' tk ys news' (F'.change hs'' hCL hC₀) (fun p hp => ?_) fin'⟩
  refine ⟨hs''.extBut _ _ ?_ (N' p hp).1, (N' p hp).2⟩
  rcases List.mem_cons.mp hp with rfl | hp
  · exact Ne.symm hCD
  · exact offC p hp

theorem zip_call {elt : PySem.Expr} {x x₂ : Str} {scope : Scope} {cl : List (Str × Addr)} {Q : Value → Shared → Prop} {l1 l2 : Addr} {xs zs : Array Value} {n : Nat} {news0 : List (Addr × Obj)} (Dt : Nat → PyData)
    (hh : A.handled = none) (F : Fr h₀ L s.heap m) (N : News h₀ L s.heap news0) (hl1 : h₀.IsList l1 xs) (hl2 : h₀.IsList l2 zs) (hn : min xs.size zs.size = n) (hsz : n ≤ sizeLine)
    (turn : ∀ i v1 v2 C oC D m₂ h tk ys rest (Q' E' : Value → Shared → Prop), i < n → xs[i]? = some v1 → zs[i]? = some v2 → NsObj oC m₂ → m₂ x = some v1 → m₂ x₂ = some v2 → Fr h₀ L h m → News h₀ L h ((C, oC) :: (D, lst ys) :: rest) → (∀ p ∈ news0, p ∈ rest) →
      (∀ y h' tk' new, Fr h₀ L h' m → News h₀ L h' (new ++ ((C, oC) :: (D, lst ys) :: rest)) → (∀ q ∈ ((C, oC) :: (D, lst ys) :: rest), ∀ p ∈ new, q.1 < p.1) → LR h₀ new y (Dt i) → Q' y { s with heap := h', toks := tk' }) →
      wpAny (model prog w) A (eval elt (compEnvC scope cl C env)) Q' E' { s with heap := h, toks := tk })
    (fin : ∀ D h tk ys news', Fr h₀ L h m → News h₀ L h ((D, lst ys) :: news') → LRs h₀ news' ys ((List.range n).map Dt) → Q (.ref D) { s with heap := h, toks := tk }) :
    wpAny (model prog w) A (call (.type "zip") [.ref l1, .ref l2]) (ZSrc prog w A h₀ L m env elt x x₂ scope cl Q) E s := by
  have e1 : s.heap.IsList l1 xs := let ⟨o, e, r⟩ := hl1; ⟨o, F.keep _ _ e, r⟩
  have e2 : s.heap.IsList l2 zs := let ⟨o, e, r⟩ := hl2; ⟨o, F.keep _ _ e, r⟩
  have b1 : l1 < s.heap.objs.size := by obtain ⟨_, e, _⟩ := e1; exact Heap.lt_size e
  have b2 : l2 < s.heap.objs.size := by obtain ⟨_, e, _⟩ := e2; exact Heap.lt_size e
  have b3 := F.ns.lt
  refine call_zip_2 e1 e2 fun h' a1 a2 a3 a4 a5 _ kp => ?_
  have b1' : (l1 : Nat) < s.heap.objs.size := b1
  have b2' : (l2 : Nat) < s.heap.objs.size := b2
  have b3' : (L : Nat) < s.heap.objs.size := b3
  have fresh : ∀ b : Nat, s.heap.objs.size ≤ b → h₀.get? b = none ∧ b ≠ L ∧ ∀ p ∈ news0, p.1 ≠ b := fun b hb => by
    refine ⟨?_, fun q => ?_, fun p hp q => ?_⟩
    · cases e : h₀.get? b with
      | none => rfl
      | some o => exact absurd (Heap.lt_size (F.keep _ _ e)) (Nat.not_lt.mpr hb)
    · rw [q] at hb; exact absurd b3 (Nat.not_lt.mpr hb)
    · have := Heap.lt_size (N p hp).1; rw [q] at this; exact absurd this (Nat.not_lt.mpr hb)
  refine ⟨_, _, _, _, _, l1, l2, xs, zs, n, Dt, news0, rfl, hh, ?_, hn, hsz, ⟨a1, a2, a3, a4, a5⟩, ⟨hl1, hl2⟩, F.keeps kp, fun p hp => ⟨kp _ _ (N p hp).1, (N p hp).2⟩, fun b hb => fresh b ?_, turn, fin⟩
  · exact ktu_apart _ _ _ b1' b2'
  · simp only [List.mem_cons, List.not_mem_nil, or_false] at hb
    rcases hb with rfl | rfl | rfl | rfl | rfl
    · exact Nat.le_add_right _ _
    · exact Nat.le_add_right _ _
    · exact Nat.le_add_right _ _
    · exact Nat.le_refl _
    · exact Nat.le_add_right _ _
end

local macro_rules | `(tactic| walk_at "eval ListComp") => `(tactic| (k_here; k_dflt (refine ListComp_zip (by k_asm) (by with_unfolding_all rfl) (by decide) (by rfl) (by decide) (by rfl) (by rfl) (by decide) ?_)))
theorem range_zip {α : Type} {f : PyData → PyData → α} {ds es : List PyData} {n : Nat} (h : n = ds.length) (h' : n = es.length) : (List.range n).map (fun i => f (ds.getD i .none) (es.getD i .none)) = List.zipWith f ds es := by
  apply List.ext_getElem
  · simp; omega
  · intro i h1 h2
    simp at h1 h2
    have g1 : i < ds.length := by omega
    have g2 : i < es.length := by omega
    simp [g1, g2]
set_option maxRecDepth 100000 in
set_option maxHeartbeats 2000000 in
theorem split3 {w : World} {mean : ExcName → Option Value} {mg mb : Str → Option Value} {dp un : Nat} {gd : Option (List Code)} {cn : Str} {cs : Scope} {a : Addr} {ccd : Value} {cl : List (Str × Addr)} {outer : List Env} {A₀ : Around} {base h₀ : Heap} {L : Addr} {m : Str → Option Value} {s : Shared} {Q E : Value → Shared → Prop}
    (B : Below A₀ base outer h₀) (F : Fr h₀ L s.heap m) (X : (Mine.hd.heap_39 w.params).In h₀) (T : Top Mine.hd.view_39 (looseW Mine.hd.view_39 [Str.ofString "ChanError"]) mean mg mb h₀) (hk : cs.kind = .function)
    (hdp : dp + 4 < recursionLimit) (_hun : un + 32 < cLine)
    {ln lv : Addr} {nvs vvs : Array Value} {txv : Value} {nds vds : List PyData} {txd : PyData}
    (hn : s.heap.IsList ln nvs) (hv : s.heap.IsList lv vvs) (rn : ReadsAll s.heap nvs.toList nds []) (rv : ReadsAll s.heap vvs.toList vds []) (rt : Reads s.heap txv txd [])
    (n0 : 1 ≤ nvs.size) (n1 : nvs.size ≤ 8) (m1 : vvs.size ≤ 8)
    (hm : vvs.size = nvs.size)
    (ret : ∀ r as h' tk', (∀ b o, s.heap.get? b = some o → h'.get? b = some o) → Reads h' r (.list (List.zipWith (fun n v => varD [n] txd [v]) nds vds)) as → Q r { s with heap := h', toks := tk' }) :
    wpAny (model Challenge.rw_xm0163_01.row.prog w) (ktrTop dp un gd cn cs L a ccd cl outer) (call (.ref 92) [.ref ln, txv, .ref lv]) Q E s := by
  revert X; k_fill; intro X
  refine wpAny_call ?_
  refine' enter0C B F X T rfl rfl hk ?k6 ?k7 ?k8 ?k9 ?kB ?kD ?_ ?c2 ?c3 ?c4
  case k6 => k_is
  case k7 => k_is
  case k8 => ktr_room
  case k9 => exact BindsTo.of_eq rfl
  case kB => exact rfl
  case kD => decide +kernel
  case c2 => exact rfl
  case c3 => exact rfl
  case c4 => exact rfl
  intro L' h' tk' cells' F' N' Y' B' X' T'
  k_cells Y'
  (try simp only [List.cons_append, List.nil_append] at N')
  clear F X T
  rename (_ = Data.cell _) => d1
  replace d1 : _ = Data.cell (some txv) := d1
  (try dsimp only)
  (try k_fold)
  w_top off
  k_steps
  unfold Hold
  refine zip_call (fun i => varD [nds.getD i .none] txd [vds.getD i .none]) rfl (by k_asm) (by k_asm) hn hv rfl (by rw [sizeLine_eq]; omega) ?turn ?fin
  case turn =>
    intro i v1 v2 C oC D m₂ h tk ys rest Q' E' hi e1 e2 hC hx1 hx2 F' N' sub hQ'
    have hc := sub _ (.head _)
    k_steps
    refine hQ' _ _ _ [_, _, _] (by assumption) (by assumption) (lt3 (by assumption) (by assumption) (by assumption)) ?_
    intro h9 k9 hm9
    have hvn := Reads.keeps k9 (nds_at rn (by simpa using e1))
    have hvv := Reads.keeps k9 (nds_at rv (by simpa using e2))
    exact Reads.tuple (hm9 _ (.head _)) rfl rfl (.cons (.str _ _) (.cons (.int _ _) (.cons (Reads.tuple (hm9 _ (.tail _ (.tail _ (.head _)))) rfl rfl (.cons hvn .nil)) (.cons (Reads.keeps k9 rt) (.cons (Reads.tuple (hm9 _ (.tail _ (.head _))) rfl rfl (.cons hvv .nil)) .nil)))))
  case fin =>
    intro D h tk ys news' F' N' hys
    (try dsimp only)
    k_steps
    refine ⟨_, _, _, F', N', fun _ _ => ?_⟩
    refine ret _ _ _ _ F'.keep (Reads.list (as := []) (N' _ (.head _)).1 rfl rfl ?_)
    have := hys h F'.keep fun p hp => (N' p (.tail _ hp)).1
    rw [range_zip (f := fun n v => varD [n] txd [v]) (by simp only [hm, Nat.min_self]; simpa using readsAll_len rn) (by simp only [hm, Nat.min_self]; rw [← hm]; simpa using readsAll_len rv)] at this
    exact this

theorem my_titem {prog : Program} {w : World} {A : Around} {E : Value → Shared → Prop} {s : Shared} {value slice : PySem.Expr} {l : Addr} {its : Array Value} {i : Nat} {u : Tok} {Q : Value → Shared → Prop}
    (hl : IsTup s.heap l its) (h1 : i < its.size) (h2 : its.size ≤ 4096) (h : ∀ v, its[i]? = some v → Q v s)
    (hs : subscripted slice false (.ref l) (.int (0 + (i : Int)) u) = operate [.ref l, .int (0 + (i : Int)) u] (getItem (.ref l) (.int (0 + (i : Int)) u)) := by with_unfolding_all rfl) :
    wpAny (model prog w) A (subscriptTail value slice (.ref l) (.int (0 + (i : Int)) u)) Q E s := by
  refine tail_any hl.typeIs slot_tuple_getitem.lookup (getItem_tuple (j := i) hl (by omega) (by omega) ?_ (Array.getElem?_eq_getElem h1) (h _ (Array.getElem?_eq_getElem h1))) hs
  unfold seqIndex?
  simp only [Int.zero_add]
  have h3 : ¬ ((i : Int) < 0) := by omega
  simp [h3, h1]
theorem small_range {n : Nat} (h : n ≤ 8) : Builtin.Range.small 0 (n : Int) 1 = true := by
  match n, h with
  | 0, _ => decide
  | 1, _ => decide
  | 2, _ => decide
  | 3, _ => decide
  | 4, _ => decide
  | 5, _ => decide
  | 6, _ => decide
  | 7, _ => decide
  | 8, _ => decide
theorem size_range {n : Nat} (h : n ≤ 8) : Builtin.Range.rangeSize 0 (n : Int) 1 = ((n : Nat) : Int) := by
  match n, h with
  | 0, _ => decide
  | 1, _ => decide
  | 2, _ => decide
  | 3, _ => decide
  | 4, _ => decide
  | 5, _ => decide
  | 6, _ => decide
  | 7, _ => decide
  | 8, _ => decide

local macro_rules | `(tactic| walk_at "CompSrc") => `(tactic| (k_here; refine hold ?_))
local macro_rules | `(tactic| walk_at "eval ListComp") => `(tactic| (k_here; k_dflt (refine LCg.ListComp_U (F₀ := by k_asm) (by with_unfolding_all rfl) (by decide) (by rfl) (by decide) (by rfl) ?_)))
local macro_rules | `(tactic| walk_at "subscriptTail") => `(tactic| (k_here; (with_reducible show wpAny _ _ (subscriptTail _ _ (Value.ref _) (Value.int (0 + ((_ : Nat) : Int)) _)) _ _ _); (with_unfolding_all refine' my_titem ?k1 ?k2 ?k4 ?_ ?k6; (case k1 => first | assumption | exact Fr.tup (by assumption) (by assumption)); (case k2 => first | assumption | omega); (case k4 => omega); (case k6 => with_unfolding_all rfl); k_whole); intro v hv))
set_option maxRecDepth 100000 in
set_option maxHeartbeats 2000000 in
theorem sv3 {w : World} {mean : ExcName → Option Value} {mg mb : Str → Option Value} {dp un : Nat} {gd : Option (List Code)} {cn : Str} {cs : Scope} {a : Addr} {ccd : Value} {cl : List (Str × Addr)} {outer : List Env} {A₀ : Around} {base h₀ : Heap} {L : Addr} {m : Str → Option Value} {s : Shared} {Q E : Value → Shared → Prop}
    (B : Below A₀ base outer h₀) (F : Fr h₀ L s.heap m) (X : (Mine.hd.heap_39 w.params).In h₀) (T : Top Mine.hd.view_39 (looseW Mine.hd.view_39 [Str.ofString "ChanError"]) mean mg mb h₀) (hk : cs.kind = .function)
    (hdp : dp + 4 < recursionLimit) (_hun : un + 32 < cLine)
    {dA tN tV : Addr} {t0 t1 : Tok} {nvs vvs : Array Value} {txv : Value} {nds vds : List PyData} {txd : PyData}
    (hdd : IsTup s.heap dA #[.str (Str.ofString "var") t0, .int 30 t1, .ref tN, txv, .ref tV]) (hn : IsTup s.heap tN nvs) (hv : IsTup s.heap tV vvs) (rn : ReadsAll s.heap nvs.toList nds []) (rv : ReadsAll s.heap vvs.toList vds []) (rt : Reads s.heap txv txd [])
    (n0 : 1 ≤ nvs.size) (n1 : nvs.size ≤ 8) (m1 : vvs.size ≤ 8)
    (hm : vvs.size = nvs.size)
    (ret : ∀ r as h' tk', (∀ b o, s.heap.get? b = some o → h'.get? b = some o) → Reads h' r (.list (List.zipWith (fun n v => varD [n] txd [v]) nds vds)) as → Q r { s with heap := h', toks := tk' }) :
    wpAny (model Challenge.rw_xm0163_01.row.prog w) (ktrTop dp un gd cn cs L a ccd cl outer) (call (.ref 59) [.ref dA]) Q E s := by
  revert X; k_fill; intro X
  refine wpAny_call ?_
  refine' enter0C B F X T rfl rfl hk ?k6 ?k7 ?k8 ?k9 ?kB ?kD ?_ ?c2 ?c3 ?c4
  case k6 => k_is
  case k7 => k_is
  case k8 => ktr_room
  case k9 => exact BindsTo.of_eq rfl
  case kB => exact rfl
  case kD => decide +kernel
  case c2 => exact rfl
  case c3 => exact rfl
  case c4 => exact rfl
  intro L' h' tk' cells' F' N' Y' B' X' T'
  k_cells Y'
  (try simp only [List.cons_append, List.nil_append] at N')
  clear F X T
  (try dsimp only)
  (try k_fold)
  w_top off
  k_steps
  rename IsRange _ _ _ _ _ _ _ _ => hr
  unfold Hold
  refine LCg.CompSrc.range (by rfl) (by assumption) (by assumption) hr (small_range n1) (size_range n1) (by rw [sizeLine_eq]; omega) ?_
  intro g'
  refine rest_all (Dt := fun i => varD [nds.getD i .none] txd [vds.getD i .none]) trivial (fun _ _ _ => trivial) ?turn ?fin
  case turn =>
    intro i v I oI C oC D m₂ h tk ys news Q' E' hi hv' hC hx F' N' sub hQ'
    obtain ⟨t9, rfl⟩ := hv'
    have hi2 : i < vvs.size := by omega
    have hc4 := sub _ (.tail _ (.head _))
    have hc3 := sub _ (.tail _ (.tail _ (.head _)))
    have hc2 := sub _ (.tail _ (.tail _ (.tail _ (.head _))))
    have hc1 := sub _ (.tail _ (.tail _ (.tail _ (.tail _ (.head _)))))
    k_steps
    refine hQ' _ _ _ [_, _, _] (by assumption) (by assumption) (lt3 (by assumption) (by assumption) (by assumption)) ?_
    intro h9 k9 hm9
    exact Reads.tuple (hm9 _ (.head _)) rfl rfl (.cons (.str _ _) (.cons (.int _ _) (.cons (Reads.tuple (hm9 _ (.tail _ (.tail _ (.head _)))) rfl rfl (.cons (Reads.keeps k9 (nds_at rn (by rw [Array.getElem?_toList]; assumption))) .nil)) (.cons (Reads.keeps k9 rt) (.cons (Reads.tuple (hm9 _ (.tail _ (.head _))) rfl rfl (.cons (Reads.keeps k9 (nds_at rv (by rw [Array.getElem?_toList]; assumption))) .nil)) .nil)))))
  case fin =>
    intro ys news hys sub
    unfold FinE
    intro D h tk F' N' off
    (try dsimp only)
    k_steps
    refine ⟨_, _, _, F', N', fun _ _ => ?_⟩
    refine ret _ _ _ _ F'.keep (Reads.list (as := []) (N' _ (.head _)).1 rfl rfl ?_)
    have := hys h F'.keep fun p hp => (N' p (.tail _ hp)).1
    rw [range_zip (f := fun n v => varD [n] txd [v]) (by simpa using readsAll_len rn) (by rw [← hm]; simpa using readsAll_len rv)] at this
    exact this

section
variable {prog : Program} {w : World} {A : Around} {E : Value → Shared → Prop} {s : Shared} {h₀ : Heap} {L : Addr} {m : Str → Option Value} {env : Env}
def TSrc (prog : Program) (w : World) (A : Around) (h₀ : Heap) (L : Addr) (m : Str → Option Value) (env : Env) (elt : PySem.Expr) (x : Str) (scope : Scope) (cl : List (Str × Addr)) (Q : Value → Shared → Prop) (xv : Value) (s₁ : Shared) : Prop :=
  ∃ ax its news, xv = .ref ax ∧ A.handled = none ∧ Fr h₀ L s₁.heap m ∧ News h₀ L s₁.heap news ∧ IsTup h₀ ax its ∧ its.size ≤ sizeLine ∧
    ∀ h, CompRest prog w A h₀ L m env elt x scope cl { s₁ with heap := h } (fun _ => True) (fun i v => its[i]? = some v) (FinE h₀ L m { s₁ with heap := h } Q) its.size 0 [] news
theorem ListComp_T {elt iter : PySem.Expr} {x : Str} {px : Pos} {scope : Scope} {cl : List (Str × Addr)} {pos : Pos} {Q : Value → Shared → Prop} (_F₀ : Fr h₀ L s.heap m)
    (hclos : closureFor scope env = pure cl) (hcell : ∀ y ∈ scope.names, y.2 ≠ .cell) (hkind : scope.kind = .function)
    (hnames : ∀ y ∈ scope.names, y.2 = .local → scope.names.lookup y.1 = some .local) (hx : scope.names.lookup x = some .local)
    (h : wpAny (model prog w) A (eval iter env) (TSrc prog w A h₀ L m env elt x scope cl Q) E s)
    (hs : ∀ x, foldedSetIterable iter env x = pure x := by intro _; rfl) :
    wpAny (model prog w) A (eval (.ListComp elt [⟨.Name x px, iter, [], 0⟩] scope pos) env) Q E s := by
  rw [eval_ListComp]
  refine wpAny_comprehension_free (use := none) rfl hs hclos hkind hnames (wpAny_mono h (fun xv s₁ h₁ => ?_) fun _ _ e => e)
  obtain ⟨ax, its, news, rfl, hh, F, N, ht, hsz, R⟩ := h₁
  have hl : s₁.heap.IsTuple ax its := let ⟨o, e, r⟩ := ht; ⟨o, F.keep _ _ e, r⟩
  have hlt : ax < s₁.heap.objs.size := by obtain ⟨_, e, _⟩ := hl; exact Heap.lt_size e
  refine wpAny_pyIter_tuple hl ?_
  have up : ∀ b o, s₁.heap.get? b = some o → (s₁.heap.push { cls := .type "tuple_iterator", data := .fields #[.ref ax, .int 0 0] }).get? b = some o := fun b o e => Heap.get?_push_of_some _ e
  refine block_U (S := fun _ => True) (Walks.tuple hh s₁.heap.objs.size ax (Nat.ne_of_lt hlt) its) hsz (fun i h st => by obtain ⟨o, e, _⟩ := st.1; exact ⟨o, e⟩) (fun i h h' o nw st e e' k N S => ?_) hcell hkind hx ⟨⟨_, Heap.get?_push_size _ rfl, rfl, rfl⟩, hl.push _⟩ (fun b hb => ?_)
    (F.keeps up) (N.grown up) (Nat.ne_of_lt F.ns.lt) (next_is_new F) (fun p hp => Nat.ne_of_lt (Heap.lt_size (N p hp).1)) trivial (R _) ?_
  · refine ⟨?_, let ⟨o, e, r⟩ := ht; ⟨o, k _ _ e, r⟩⟩
    obtain ⟨o', q, r⟩ := st.1
    rw [e] at q; cases q; exact ⟨o, e', r⟩
  · show b < (s₁.heap.push _).objs.size
    rw [Heap.size_push]
    rcases List.mem_cons.mp hb with rfl | hb
    · exact Nat.lt_succ_self _
    · rw [List.mem_singleton.mp hb]; exact Nat.lt_succ_of_lt hlt
  · intro D C h tk m' ys news' F' N' o1 hn hC₀ hD₀ hCL hDL hCD offC fin
    refine ⟨m', hn, fun h'' hs'' => fin D h'' tk (F'.change hs'' hCL hC₀) (fun p hp => ?_) o1⟩
    refine ⟨hs''.extBut _ _ ?_ (N' p hp).1, (N' p hp).2⟩
    rcases List.mem_cons.mp hp with rfl | hp
    · exact Ne.symm hCD
    · exact offC p hp
end

local macro_rules | `(tactic| walk_at "eval ListComp") => `(tactic| (k_here; k_dflt (refine ListComp_T (by k_asm) (by with_unfolding_all rfl) (by decide) (by rfl) (by decide) (by rfl) ?_)))
set_option maxRecDepth 100000 in
set_option maxHeartbeats 2000000 in
theorem sv0 {w : World} {mean : ExcName → Option Value} {mg mb : Str → Option Value} {dp un : Nat} {gd : Option (List Code)} {cn : Str} {cs : Scope} {a : Addr} {ccd : Value} {cl : List (Str × Addr)} {outer : List Env} {A₀ : Around} {base h₀ : Heap} {L : Addr} {m : Str → Option Value} {s : Shared} {Q E : Value → Shared → Prop}
    (B : Below A₀ base outer h₀) (F : Fr h₀ L s.heap m) (X : (Mine.hd.heap_39 w.params).In h₀) (T : Top Mine.hd.view_39 (looseW Mine.hd.view_39 [Str.ofString "ChanError"]) mean mg mb h₀) (hk : cs.kind = .function)
    (hdp : dp + 4 < recursionLimit) (_hun : un + 32 < cLine)
    {dA tN tV : Addr} {t0 t1 : Tok} {nvs vvs : Array Value} {txv : Value} {nds vds : List PyData} {txd : PyData}
    (hdd : IsTup s.heap dA #[.str (Str.ofString "var") t0, .int 30 t1, .ref tN, txv, .ref tV]) (hn : IsTup s.heap tN nvs) (hv : IsTup s.heap tV vvs) (rn : ReadsAll s.heap nvs.toList nds []) (rv : ReadsAll s.heap vvs.toList vds []) (rt : Reads s.heap txv txd [])
    (n0 : 1 ≤ nvs.size) (n1 : nvs.size ≤ 8) (m1 : vvs.size ≤ 8)
    (hm : vvs.size = 0)
    (ret : ∀ r as h' tk', (∀ b o, s.heap.get? b = some o → h'.get? b = some o) → Reads h' r (.list (nds.map fun n => varD [n] txd [])) as → Q r { s with heap := h', toks := tk' }) :
    wpAny (model Challenge.rw_xm0163_01.row.prog w) (ktrTop dp un gd cn cs L a ccd cl outer) (call (.ref 59) [.ref dA]) Q E s := by
  revert X; k_fill; intro X
  refine wpAny_call ?_
  refine' enter0C B F X T rfl rfl hk ?k6 ?k7 ?k8 ?k9 ?kB ?kD ?_ ?c2 ?c3 ?c4
  case k6 => k_is
  case k7 => k_is
  case k8 => ktr_room
  case k9 => exact BindsTo.of_eq rfl
  case kB => exact rfl
  case kD => decide +kernel
  case c2 => exact rfl
  case c3 => exact rfl
  case c4 => exact rfl
  intro L' h' tk' cells' F' N' Y' B' X' T'
  k_cells Y'
  (try simp only [List.cons_append, List.nil_append] at N')
  clear F X T
  (try dsimp only)
  (try k_fold)
  w_top off
  k_steps
  refine ⟨tN, nvs, _, rfl, rfl, by assumption, by assumption, hn, by rw [sizeLine_eq]; omega, fun g' => ?_⟩
  refine rest_all (Dt := fun i => varD [nds.getD i .none] txd []) trivial (fun _ _ _ => trivial) ?turn ?fin
  case turn =>
    intro i v I oI C oC D m₂ h tk ys news Q' E' hi hv' hC hx F' N' sub hQ'
    have hc4 := sub _ (.tail _ (.head _))
    have hc3 := sub _ (.tail _ (.tail _ (.head _)))
    have hc2 := sub _ (.tail _ (.tail _ (.tail _ (.head _))))
    have hc1 := sub _ (.tail _ (.tail _ (.tail _ (.tail _ (.head _)))))
    k_steps
    refine hQ' _ _ _ [_, _, _] (by assumption) (by assumption) (lt3 (by assumption) (by assumption) (by assumption)) ?_
    intro h9 k9 hm9
    exact Reads.tuple (hm9 _ (.head _)) rfl rfl (.cons (.str _ _) (.cons (.int _ _) (.cons (Reads.tuple (hm9 _ (.tail _ (.tail _ (.head _)))) rfl rfl (.cons (Reads.keeps k9 (nds_at rn (by rw [Array.getElem?_toList]; assumption))) .nil)) (.cons (Reads.keeps k9 rt) (.cons (Reads.tuple (hm9 _ (.tail _ (.head _))) rfl rfl .nil) .nil)))))
  case fin =>
    intro ys news hys sub
    unfold FinE
    intro D h tk F' N' off
    (try dsimp only)
    k_steps
    refine ⟨_, _, _, F', N', fun _ _ => ?_⟩
    refine ret _ _ _ _ F'.keep (Reads.list (as := []) (N' _ (.head _)).1 rfl rfl ?_)
    have := hys h F'.keep fun p hp => (N' p (.tail _ hp)).1
    rw [range_map (f := fun n => varD [n] txd []) (by simpa using readsAll_len rn)] at this
    exact this
set_option maxRecDepth 100000 in
set_option maxHeartbeats 2000000 in
theorem sv1 {w : World} {mean : ExcName → Option Value} {mg mb : Str → Option Value} {dp un : Nat} {gd : Option (List Code)} {cn : Str} {cs : Scope} {a : Addr} {ccd : Value} {cl : List (Str × Addr)} {outer : List Env} {A₀ : Around} {base h₀ : Heap} {L : Addr} {m : Str → Option Value} {s : Shared} {Q E : Value → Shared → Prop}
    (B : Below A₀ base outer h₀) (F : Fr h₀ L s.heap m) (X : (Mine.hd.heap_39 w.params).In h₀) (T : Top Mine.hd.view_39 (looseW Mine.hd.view_39 [Str.ofString "ChanError"]) mean mg mb h₀) (hk : cs.kind = .function)
    (hdp : dp + 4 < recursionLimit) (_hun : un + 32 < cLine)
    {dA tN tV : Addr} {t0 t1 : Tok} {nvs vvs : Array Value} {txv : Value} {nds vds : List PyData} {txd : PyData}
    (hdd : IsTup s.heap dA #[.str (Str.ofString "var") t0, .int 30 t1, .ref tN, txv, .ref tV]) (hn : IsTup s.heap tN nvs) (hv : IsTup s.heap tV vvs) (rn : ReadsAll s.heap nvs.toList nds []) (rv : ReadsAll s.heap vvs.toList vds []) (rt : Reads s.heap txv txd [])
    (n0 : 1 ≤ nvs.size) (n1 : nvs.size ≤ 8) (m1 : vvs.size ≤ 8)
    (hm : vvs.size = 1) (hne : nvs.size ≠ 1)
    (ret : ∀ r as h' tk', (∀ b o, s.heap.get? b = some o → h'.get? b = some o) → Reads h' r (.list [varD nds txd vds]) as → Q r { s with heap := h', toks := tk' }) :
    wpAny (model Challenge.rw_xm0163_01.row.prog w) (ktrTop dp un gd cn cs L a ccd cl outer) (call (.ref 59) [.ref dA]) Q E s := by
  revert X; k_fill; intro X
  refine wpAny_call ?_
  refine' enter0C B F X T rfl rfl hk ?k6 ?k7 ?k8 ?k9 ?kB ?kD ?_ ?c2 ?c3 ?c4
  case k6 => k_is
  case k7 => k_is
  case k8 => ktr_room
  case k9 => exact BindsTo.of_eq rfl
  case kB => exact rfl
  case kD => decide +kernel
  case c2 => exact rfl
  case c3 => exact rfl
  case c4 => exact rfl
  intro L' h' tk' cells' F' N' Y' B' X' T'
  k_cells Y'
  (try simp only [List.cons_append, List.nil_append] at N')
  clear F X T
  (try dsimp only)
  (try k_fold)
  k_steps
  rename Fr _ _ _ _ => F9
  rename News _ _ _ _ => N9
  refine ⟨_, _, _, F9, N9, fun _ _ => ?_⟩
  obtain ⟨od, hod, hoc, nd, hodd⟩ := hdd
  obtain ⟨on, hon, honc, nn, hond⟩ := hn
  obtain ⟨ov, hov, hovc, nv, hovd⟩ := hv
  exact ret _ _ _ _ F9.keep (Reads.list (as := []) (N9 _ (.head _)).1 rfl rfl (.cons (Reads.tuple (F9.keep _ _ hod) hoc hodd (.cons (.str _ _) (.cons (.int _ _) (.cons (Reads.tuple (F9.keep _ _ hon) honc hond (ReadsAll.keeps F9.keep rn)) (.cons (Reads.keeps F9.keep rt) (.cons (Reads.tuple (F9.keep _ _ hov) hovc hovd (ReadsAll.keeps F9.keep rv)) .nil)))))) .nil))


def varsD (nds : List PyData) (txd : PyData) (vds : List PyData) : PyData :=
  if vds.length = nds.length then .list (List.zipWith (fun n v => varD [n] txd [v]) nds vds) else if vds.length = 1 then .list [varD nds txd vds] else .list (nds.map fun n => varD [n] txd [])
theorem varsD_eq {h : Heap} {nvs vvs : Array Value} {nds vds : List PyData} {txd : PyData} (rn : ReadsAll h nvs.toList nds []) (rv : ReadsAll h vvs.toList vds []) (e : vvs.size = nvs.size) : varsD nds txd vds = .list (List.zipWith (fun n v => varD [n] txd [v]) nds vds) := by
  have a := readsAll_len rn
  have b := readsAll_len rv
  rw [Array.length_toList] at a b
  unfold varsD
  rw [if_pos (by omega)]
theorem varsD_one {h : Heap} {nvs vvs : Array Value} {nds vds : List PyData} {txd : PyData} (rn : ReadsAll h nvs.toList nds []) (rv : ReadsAll h vvs.toList vds []) (e : vvs.size ≠ nvs.size) (e1 : vvs.size = 1) : varsD nds txd vds = .list [varD nds txd vds] := by
  have a := readsAll_len rn
  have b := readsAll_len rv
  rw [Array.length_toList] at a b
  unfold varsD
  rw [if_neg (by omega), if_pos (by omega)]
theorem varsD_nil {h : Heap} {nvs vvs : Array Value} {nds vds : List PyData} {txd : PyData} (rn : ReadsAll h nvs.toList nds []) (rv : ReadsAll h vvs.toList vds []) (e : vvs.size ≠ nvs.size) (e1 : vvs.size = 0) : varsD nds txd vds = .list (nds.map fun n => varD [n] txd []) := by
  have a := readsAll_len rn
  have b := readsAll_len rv
  rw [Array.length_toList] at a b
  unfold varsD
  rw [if_neg (by omega), if_neg (by omega)]
set_option maxRecDepth 100000 in
set_option maxHeartbeats 2000000 in
theorem sv_ok {w : World} {mean : ExcName → Option Value} {mg mb : Str → Option Value} {dp un : Nat} {gd : Option (List Code)} {cn : Str} {cs : Scope} {a : Addr} {ccd : Value} {cl : List (Str × Addr)} {outer : List Env} {A₀ : Around} {base h₀ : Heap} {L : Addr} {m : Str → Option Value} {s : Shared} {Q E : Value → Shared → Prop}
    (B : Below A₀ base outer h₀) (F : Fr h₀ L s.heap m) (X : (Mine.hd.heap_39 w.params).In h₀) (T : Top Mine.hd.view_39 (looseW Mine.hd.view_39 [Str.ofString "ChanError"]) mean mg mb h₀) (hk : cs.kind = .function)
    (hdp : dp + 4 < recursionLimit) (_hun : un + 32 < cLine)
    {dA tN tV : Addr} {t0 t1 : Tok} {nvs vvs : Array Value} {txv : Value} {nds vds : List PyData} {txd : PyData}
    (hdd : IsTup s.heap dA #[.str (Str.ofString "var") t0, .int 30 t1, .ref tN, txv, .ref tV]) (hn : IsTup s.heap tN nvs) (hv : IsTup s.heap tV vvs) (rn : ReadsAll s.heap nvs.toList nds []) (rv : ReadsAll s.heap vvs.toList vds []) (rt : Reads s.heap txv txd [])
    (n0 : 1 ≤ nvs.size) (n1 : nvs.size ≤ 8) (m1 : vvs.size ≤ 8)
    (hm : vvs.size = nvs.size ∨ vvs.size ≤ 1)
    (ret : ∀ r as h' tk', (∀ b o, s.heap.get? b = some o → h'.get? b = some o) → Reads h' r (varsD nds txd vds) as → Q r { s with heap := h', toks := tk' }) :
    wpAny (model Challenge.rw_xm0163_01.row.prog w) (ktrTop dp un gd cn cs L a ccd cl outer) (call (.ref 59) [.ref dA]) Q E s := by
  by_cases e : vvs.size = nvs.size
  · exact sv3 B F X T hk hdp _hun hdd hn hv rn rv rt n0 n1 m1 e (by rw [← varsD_eq rn rv e]; exact ret)
  · by_cases e1 : vvs.size = 1
    · exact sv1 B F X T hk hdp _hun hdd hn hv rn rv rt n0 n1 m1 e1 (by omega) (by rw [← varsD_one rn rv e e1]; exact ret)
    · have e0 : vvs.size = 0 := by omega
      exact sv0 B F X T hk hdp _hun hdd hn hv rn rv rt n0 n1 m1 e0 (by rw [← varsD_nil rn rv e e0]; exact ret)
set_option maxRecDepth 100000 in
set_option maxHeartbeats 2000000 in
theorem split_ok {w : World} {mean : ExcName → Option Value} {mg mb : Str → Option Value} {dp un : Nat} {gd : Option (List Code)} {cn : Str} {cs : Scope} {a : Addr} {ccd : Value} {cl : List (Str × Addr)} {outer : List Env} {A₀ : Around} {base h₀ : Heap} {L : Addr} {m : Str → Option Value} {s : Shared} {Q E : Value → Shared → Prop}
    (B : Below A₀ base outer h₀) (F : Fr h₀ L s.heap m) (X : (Mine.hd.heap_39 w.params).In h₀) (T : Top Mine.hd.view_39 (looseW Mine.hd.view_39 [Str.ofString "ChanError"]) mean mg mb h₀) (hk : cs.kind = .function)
    (hdp : dp + 4 < recursionLimit) (_hun : un + 32 < cLine)
    {ln lv : Addr} {nvs vvs : Array Value} {txv : Value} {nds vds : List PyData} {txd : PyData}
    (hn : s.heap.IsList ln nvs) (hv : s.heap.IsList lv vvs) (rn : ReadsAll s.heap nvs.toList nds []) (rv : ReadsAll s.heap vvs.toList vds []) (rt : Reads s.heap txv txd [])
    (n0 : 1 ≤ nvs.size) (n1 : nvs.size ≤ 8) (m1 : vvs.size ≤ 8)
    (hm : vvs.size = nvs.size ∨ vvs.size ≤ 1)
    (ret : ∀ r as h' tk', (∀ b o, s.heap.get? b = some o → h'.get? b = some o) → Reads h' r (varsD nds txd vds) as → Q r { s with heap := h', toks := tk' }) :
    wpAny (model Challenge.rw_xm0163_01.row.prog w) (ktrTop dp un gd cn cs L a ccd cl outer) (call (.ref 92) [.ref ln, txv, .ref lv]) Q E s := by
  by_cases e : vvs.size = nvs.size
  · exact split3 B F X T hk hdp _hun hn hv rn rv rt n0 n1 m1 e (by rw [← varsD_eq rn rv e]; exact ret)
  · by_cases e1 : vvs.size = 1
    · exact split1 B F X T hk hdp _hun hn hv rn rv rt n0 n1 m1 e1 (by omega) (by rw [← varsD_one rn rv e e1]; exact ret)
    · have e0 : vvs.size = 0 := by omega
      exact split0 B F X T hk hdp _hun hn hv rn rv rt n0 n1 (Array.eq_empty_of_size_eq_zero e0) (by rw [← varsD_nil rn rv e e0]; exact ret)
local macro_rules | `(tactic| walk_at "call ref") => `(tactic| (k_here; (with_reducible show wpAny _ _ (call (Value.ref 59) _) _ _ _); k_dflt (refine' sv_ok ?k1 ?k2 ?k3 ?k4 ?kK ?kd ?ku ?hdd ?hn ?hv ?rn ?rv ?rt ?n0 ?n1 ?m1 ?hm ?_; (case k1 => k_asm); (case k2 => k_asm); (case k3 => k_asm); (case k4 => k_asm); (case kK => first | exact rfl | assumption); (case kd => ktr_room); (case ku => ktr_units); (case hdd => exact News.isTup (by k_asm) (by k_mem)); (case hn => exact News.isTup (by k_asm) (by k_mem)); (case hv => exact News.isTup (by k_asm) (by k_mem)); (case rn => exact ReadsAll.keeps (Fr.keep (by k_asm)) (by assumption)); (case rv => exact ReadsAll.keeps (Fr.keep (by k_asm)) (by assumption)); (case rt => exact Reads.keeps (Fr.keep (by k_asm)) (by assumption)); (case n0 => assumption); (case n1 => assumption); (case m1 => assumption); (case hm => assumption)); intro r as h' tk' kp hr; (have F' := Fr.keeps (by k_asm) kp); (have N' := News.grown (by k_asm) kp); (try k_sweep)))
set_option maxRecDepth 100000 in
set_option maxHeartbeats 2000000 in
theorem told_ok {w : World} {mean : ExcName → Option Value} {mg mb : Str → Option Value} {dp un : Nat} {gd : Option (List Code)} {cn : Str} {cs : Scope} {a : Addr} {ccd : Value} {cl : List (Str × Addr)} {outer : List Env} {A₀ : Around} {base h₀ : Heap} {L : Addr} {m : Str → Option Value} {s : Shared} {Q E : Value → Shared → Prop}
    (B : Below A₀ base outer h₀) (F : Fr h₀ L s.heap m) (X : (Mine.hd.heap_39 w.params).In h₀) (T : Top Mine.hd.view_39 (looseW Mine.hd.view_39 [Str.ofString "ChanError"]) mean mg mb h₀) (hk : cs.kind = .function)
    (hdp : dp + 10 < recursionLimit) (_hun : un + 80 < cLine)
    {ln lv : Addr} {nvs vvs : Array Value} {txv : Value} {nds vds : List PyData} {txd : PyData}
    (hn : s.heap.IsList ln nvs) (hv : s.heap.IsList lv vvs) (rn : ReadsAll s.heap nvs.toList nds []) (rv : ReadsAll s.heap vvs.toList vds []) (rt : Reads s.heap txv txd [])
    (n0 : 1 ≤ nvs.size) (n1 : nvs.size ≤ 8) (m1 : vvs.size ≤ 8)
    (hm : vvs.size = nvs.size ∨ vvs.size ≤ 1)
    (ret : ∀ r as h' tk', (∀ b o, s.heap.get? b = some o → h'.get? b = some o) → Reads h' r (varsD nds txd vds) as → Q r { s with heap := h', toks := tk' }) :
    wpAny (model Challenge.rw_xm0163_01.row.prog w) (ktrTop dp un gd cn cs L a ccd cl outer) (call (.ref 99) [.ref ln, txv, .ref lv]) Q E s := by
  revert X; k_fill; intro X
  refine wpAny_call ?_
  refine' enter0 B F X T rfl rfl hk ?k6 ?k7 ?k8 ?k9 ?kB ?_ ?c2 ?c3 ?c4 ?c5
  case k6 => k_is
  case k7 => k_is
  case k8 => ktr_room
  case k9 => exact BindsTo.of_eq rfl
  case kB => exact locs rfl
  case c2 => exact rfl
  case c3 => exact rfl
  case c4 => exact rfl
  case c5 => decide
  intro L' h' F' N' B' X' T'
  clear F X T
  (try dsimp only)
  (try k_fold)
  w_top off
  k_steps
  rename Fr _ _ _ _ => F9
  rename News _ _ _ _ => N9
  rename Reads _ _ _ _ => hr9
  exact (show LeaveK _ _ _ _ _ _ _ from ⟨_, _, _, F9, N9, fun _ _ => ret _ _ _ _ F9.keep hr9⟩)

end Mine
end

section
open PySem PySem.W PyProof.Rows PySem.Calls Builtin Builtin.ObjectAttr
set_option Elab.async false
set_option maxRecDepth 100000
namespace Mine
abbrev excO (t : Addr) (dx : Option Addr) : Obj := { cls := .ref 45, dict := dx, data := .fields #[.ref t, .none, .none, .none, .bool false, .none] }
abbrev tupO (l : List Value) : Obj := { cls := .type "tuple", data := .seq l.toArray }
section
variable {w : World} {A : Around} {R : Result → Shared → Prop} {h : Heap} {g : Array GenState} {d : Drawn} {t : Nat} {os : OsState}
theorem cls45 (w : World) : ∃ dd cd sl, (Mine.hd.heap_39 w.params).lookup 45 = some ⟨.type "type", dd, .cls cd, sl⟩ ∧ cd.hasDel = false ∧ cd.mro = [.ref 45, .ref 32, .type "Exception", .type "BaseException", .type "object"] ∧ sl.toList = [some (.ref 36), none, some (.str (Str.ofString "TypeFault") 221), some (.str (Str.ofString "TypeFault") 229), some (.builtin "Exception.__new__"), some (.bool true)] ∧ cd.hasDict = true ∧ cd.abstract = false :=
  ⟨_, _, _, rfl, rfl, rfl, rfl, rfl, rfl⟩
set_option maxHeartbeats 1000000 in
theorem exc_make {rest : List Value} (X : (Mine.hd.heap_39 w.params).In h) (hr : rest.length ≤ 8)
    (hq : codeAny (model Challenge.rw_xm0163_01.row.prog w) (A.under (.builtin "type.__call__" ⟨.ref 45 :: rest, []⟩)) (.call (.ref 29) ⟨.ref (h.objs.size + 1) :: rest, []⟩) (InitBack (h.objs.size + 1) R) ⟨(h.push (tupO rest)).push (excO h.objs.size none), g, d, t, os⟩) :
    codeAny (model Challenge.rw_xm0163_01.row.prog w) A (.call (.ref 45) ⟨rest, []⟩) R ⟨h, g, d, t, os⟩ := by
  obtain ⟨dd, cd, sl, ho, e2, e4, e5, e6, e7⟩ := cls45 w
  have hC := X _ _ ho
  have call : Looks (model Challenge.rw_xm0163_01.row.prog w) h (specialOf (.ref 45) "__call__") (some (.builtin "type.__call__")) := looks_specialIn X (by rfl)
  have typ : Looks (model Challenge.rw_xm0163_01.row.prog w) h (isInstance (.ref 45) (.type "type")) true := looks_instIn X (by rfl)
  have hc : clsIn (Mine.hd.heap_39 w.params) 45 = some cd := by unfold clsIn; rw [ho]
  have hm : Looks (model Challenge.rw_xm0163_01.row.prog w) h (mroOf (.ref 45)) cd.mro := (looks_clsIn X hc).andThen .now
  have made : Looks (model Challenge.rw_xm0163_01.row.prog w) h (Bind.madeBy (.ref 45)) (some "Exception.__new__") := Looks.of_peek X (by rfl)
  have e4' : cd.mro.isEmpty = false := by rw [e4]; rfl
  refine codeAny_of_tree ?_
  show wpAny _ _ (callAny (.ref 45) _) _ _ _
  refine nd_load hC ?_
  show wpAny _ _ (callAny.viaDunder (.ref 45) _) _ _ _
  unfold callAny.viaDunder
  refine wpAny_bind (call.at ?_)
  dsimp only
  rw [tc_bind]
  refine wpAny_bind (wpAny_pure (wpAny_bind (wpAny_pure ?_)))
  refine wpAny_pure (a := Fin.again (.call (.builtin "type.__call__") ⟨.ref 45 :: rest, []⟩)) (And.intro rfl ?_)
  refine codeAny_call_builtin_at (Code.quiet_builtin _ (by decide +kernel)) entry_typeCall (check_slot tc_kind tc_split typ (tc_args _ _ _) ?_)
  unfold Builtin.«type.__call__»
  repeat (first | simp only [e4', Bool.false_eq_true, if_false] | with_reducible refine wpAny_call ?_ | lk)
  have F := PySem.F.excBase_Exception
  have hends := F.ends
  have sE : Looks (model Challenge.rw_xm0163_01.row.prog w) h (isSubtype (.ref 45) (.type "Exception")) true := looks_subIn X (by rfl)
  have sA : Looks (model Challenge.rw_xm0163_01.row.prog w) h (isSubtype (.ref 45) (.type "AttributeError")) false := looks_subIn X (by rfl)
  have sN : Looks (model Challenge.rw_xm0163_01.row.prog w) h (isSubtype (.ref 45) (.type "NameError")) false := looks_subIn X (by rfl)
  have sB : Looks (model Challenge.rw_xm0163_01.row.prog w) h (Bind.staticBase (.ref 45)) (.ref 45) := Looks.of_peek X (by rfl)
  refine codeAny_call_builtin_code (Code.quiet_builtin _ F.quiet) ?_
  have hstar := F.noStar
  simp only [checkBuiltinCall, F.newKind, F.newSplit, F.newRow]
  repeat (first | simp only [bne_self_eq_false, Bool.false_eq_true, if_false] | lk)
  have made2 : Looks (model Challenge.rw_xm0163_01.row.prog w) h (Bind.madeHere "BaseException.__new__" (.ref 45)) () := by
    refine sB.andThen (made.andThen (Looks.of_pure ?_))
    simp only [Option.map_some, F.canon, bne_self_eq_false, Bool.false_eq_true, if_false]
  refine codeAny_builtinAt F.entry ?_
  unfold Builtin.«BaseException.__new__»
  refine PySem.wpAt_bind ?_
  show PySem.wpAt _ _ _ (stack >>= _) _ _ _
  refine PySem.wpAt_bind (PySem.wpAt_stack fun p below => PySem.wpAt_of_wpAny ?_)
  wp_walk
  refine PySem.wpAt_of_wpAny ?_
  rw [F.owner]
  have hsz : rest.length ≤ sizeLine := by rw [sizeLine_eq]; omega
  have s45 : Looks (model Challenge.rw_xm0163_01.row.prog w) h (isType (.ref 45)) true := Looks.of_peek X (by rfl)
  repeat (first | simp only [Bool.not_true, Bool.false_eq_true, if_false] | (with_reducible refine wpAny_bind (wpAny_newTuple (hsz := hsz) ?_)) | lk)
  have k2 : ∀ b o, h.get? b = some o → ((h.push (tupO rest)).push (excO h.objs.size none)).get? b = some o := fun b o e => Heap.get?_push_of_some _ (Heap.get?_push_of_some _ e)
  have hC2 := k2 _ _ hC
  refine nd_load hC2 ?_
  refine nd_pure ?_
  dsimp only
  rw [e2]
  refine wpAny_pure (wpAny_pure ?_)
  have hx : ((h.push (tupO rest)).push (excO h.objs.size none)).get? (h.objs.size + 1) = some (excO h.objs.size none) := by
    have := Heap.get?_push_size (h.push (tupO rest)) (o := excO h.objs.size none) rfl
    rw [Heap.size_push] at this
    exact this
  have hsz1 : (h.push (tupO rest)).objs.size = h.objs.size + 1 := Heap.size_push ..
  have X2 := X.keeps k2
  have t1 : Looks (model Challenge.rw_xm0163_01.row.prog w) ((h.push (tupO rest)).push (excO h.objs.size none)) (typeOf (.ref (h.objs.size + 1))) (.ref 45) := (Looks.ld hx).andThen .now
  have s1 : Looks (model Challenge.rw_xm0163_01.row.prog w) ((h.push (tupO rest)).push (excO h.objs.size none)) (isSubtype (.ref 45) (.ref 45)) true := looks_subIn X2 (by rfl)
  have i1 : Looks (model Challenge.rw_xm0163_01.row.prog w) ((h.push (tupO rest)).push (excO h.objs.size none)) (typeLookup (.ref 45) "__init__") (some (.ref 29)) := looks_findIn X2 (by rfl)
  have b1 : Looks (model Challenge.rw_xm0163_01.row.prog w) ((h.push (tupO rest)).push (excO h.objs.size none)) (bindSpecial (.ref 29) (.ref (h.objs.size + 1))) (.ref 29, [.ref (h.objs.size + 1)]) := bind_fn X2 _ (by rfl)
  rw [hsz1]
  (try dsimp only)
  change wpAny _ _ _ _ _ ⟨(h.push (tupO rest)).push (excO h.objs.size none), g, d, t, os⟩
  unfold isInstance callSpecial? specialOf
  repeat (first | with_reducible refine wpAny_call ?_ | lk)
  refine codeAny_mono hq fun r s' z => ?_
  rcases r with e | (v | _ | _ | _) <;> first | exact z | exact z.elim | skip
  obtain ⟨rfl, z⟩ := z
  exact wpAny_pure (wpAny_pure z)
end
end Mine

end

section
open PySem PySem.W PyProof.Rows PySem.Calls Builtin Builtin.ObjectAttr
set_option Elab.async false
set_option maxRecDepth 100000
namespace Mine
section
variable {w : World} {A : Around} {E : Value → Shared → Prop} {Q : Value → Shared → Prop} {h : Heap} {g : Array GenState} {d : Drawn} {tk : Nat} {os : OsState}
set_option maxHeartbeats 400000 in
theorem exc_base_init {e t : Addr} {msg : Str} {tm : Tok} (X : (Mine.hd.heap_39 w.params).In h) (he : h.get? e = some (excO t none))
    (hq : Q .none ⟨(h.push (tupO [.str msg tm])).update e (Obj.mapFields (·.setIfInBounds 0 (.ref h.objs.size))), g, d, tk, os⟩) :
    wpAny (model Challenge.rw_xm0163_01.row.prog w) A (call (.builtin "Exception.__init__") [.ref e, .str msg tm]) Q E ⟨h, g, d, tk, os⟩ := by
  have F := PySem.F.excBase_Exception
  have ty : Looks (model Challenge.rw_xm0163_01.row.prog w) h (typeOf (.ref e)) (.ref 45) := (Looks.ld he).andThen .now
  have sub : Looks (model Challenge.rw_xm0163_01.row.prog w) h (isInstance (.ref e) (.type "Exception")) true := ty.andThen (looks_subIn X (by rfl))
  refine wpAny_call (codeAny_call_builtin F.init.plain F.initEntry ?_)
  have he2 : (h.push (tupO [.str msg tm])).get? e = some (excO t none) := Heap.get?_push_of_some _ he
  have hshort := F.noStar
  simp only [checkBuiltinCall, F.initKind, F.initSplit, F.initRow]
  obtain ⟨dd, cd, sl, ho, e2, e4, e5, e6, e7⟩ := cls45 w
  have hC := X _ _ ho
  repeat (first | simp only [Bool.not_true, Bool.false_eq_true, if_false] | lk)
  refine wpAny_update (a := e) he2 ?_
  refine wpAny_letGo (removed := [.ref t]) ?_
  exact wpAny_pure hq
end
end Mine

end

section
open PySem PySem.W PyProof.Rows PySem.Calls Builtin Builtin.ObjectAttr
set_option Elab.async false
set_option maxRecDepth 100000
namespace Mine
section
variable {w : World} {A : Around} {E : Value → Shared → Prop} {Q : Unit → Shared → Prop} {h : Heap} {g : Array GenState} {d : Drawn} {tk : Nat} {os : OsState}
theorem refuse_exc (self : Value) : refuseLoop self "__setattr__" [.ref 45, .ref 32, .type "Exception", .type "BaseException", .type "object"] = pure () := by
  rw [refuseLoop_ref, refuseLoop_ref]
  kernel_rfl
set_option maxHeartbeats 400000 in
theorem exc_set {e : Addr} {ox : Obj} {od : Option Obj} {name : Str} {v : Value} (X : (Mine.hd.heap_39 w.params).In h) (I : W.InstAt h e ox 45 od) (hn : findIn (Mine.hd.heap_39 w.params) (.ref 45) name = some none)
    (hq : wpAny (model Challenge.rw_xm0163_01.row.prog w) A.in1 (storeInOwnDict (.ref e) (.ref 45) (.str name tk) name v false) (fun fin s' => match fin with | .done (.ret _) => Q () s' | _ => False) (fun e s' => E e s') ⟨h, g, d, tk + 1, os⟩) :
    wpAny (model Challenge.rw_xm0163_01.row.prog w) A (setAttr (.ref e) name v) Q E ⟨h, g, d, tk, os⟩ := by
  have SF := PySem.F.store_object
  obtain ⟨dd, cd, sl, ho, e2, e4, e5, e6, e7⟩ := cls45 w
  have hc : clsIn (Mine.hd.heap_39 w.params) 45 = some cd := by unfold clsIn; rw [ho]
  have hm : Looks (model Challenge.rw_xm0163_01.row.prog w) h (mroOf (.ref 45)) cd.mro := (looks_clsIn X hc).andThen .now
  have sub : Looks (model Challenge.rw_xm0163_01.row.prog w) h (isInstance (.ref e) (.type "object")) true := I.type.andThen (looks_subIn X (by rfl))
  refine set_plain (s := ⟨h, g, d, tk, os⟩) X I (by rfl) ?_
  refine codeAny_call_builtin SF.slot.plain SF.entry (@check_slot (model Challenge.rw_xm0163_01.row.prog w) _ _ _ "object.__setattr__" "object" "__setattr__" (.ref e) [.str name tk, v] [] _ SF.kind SF.split sub (SF.args (.ref e) (.str name tk) v) ?_)
  rw [osa_eq, refuse_eq]
  refine wpAny_bind (wpAny_bind (I.type.here (wpAny_bind (hm.here ?_))))
  rw [e4, refuse_exc]
  refine wpAny_pure (wpAny_bind (I.type.here (wpAny_bind ((looks_findIn X hn).here (wpAny_bind ?_)))))
  refine wpAny_pure (a := (none : Option Value)) ?_
  refine wpAny_mono hq (fun fin s' z => ?_) fun _ _ z => z
  rcases fin with (_ | _ | _ | _) | _ <;> first | exact z | exact z.elim
end
end Mine

end

section
open PySem PySem.W PyProof.Rows PySem.Calls Builtin Builtin.ObjectAttr
set_option Elab.async false
set_option maxRecDepth 100000
namespace Mine
section
variable {w : World} {A : Around} {E : Value → Shared → Prop} {Q : Unit → Shared → Prop} {h : Heap} {g : Array GenState} {d : Drawn} {tk : Nat} {os : OsState}
set_option maxHeartbeats 400000 in
theorem store_new {e t : Addr} {name : Str} {nt : Tok} {v : Value} (X : (Mine.hd.heap_39 w.params).In h) (he : h.get? e = some (excO t none))
    (hq : ∀ h', h'.get? e = some (excO t (some h.objs.size)) → h'.get? h.objs.size = some (dictOf [⟨PyData.keyHash w.params name, .str name tk, v⟩] 1) → (∀ b o, b ≠ e → h.get? b = some o → h'.get? b = some o) →
      Q () ⟨h', g, d, tk + 1, os⟩) :
    wpAny (model Challenge.rw_xm0163_01.row.prog w) A (storeInOwnDict (.ref e) (.ref 45) (.str name nt) name v false) (fun fin s' => match fin with | .done (.ret _) => Q () s' | _ => False) E ⟨h, g, d, tk, os⟩ := by
  obtain ⟨dd, cd, sl, ho, e2, e4, e5, e6, e7⟩ := cls45 w
  have hC := X _ _ ho
  unfold storeInOwnDict ownDictForStores instanceDict
  repeat (first | simp only [e6, Bool.not_true, Bool.false_eq_true, if_false] | lk)
  have he1 : (h.push emptyDict).get? e = some (excO t none) := Heap.get?_push_of_some _ he
  refine wpAny_update (a := e) he1 ?_
  have hne : h.objs.size ≠ e := Nat.ne_of_gt (Heap.lt_size he)
  have he2 := Heap.get?_update_self (fun o => { cls := o.cls, dict := some h.objs.size, data := o.data, slots := o.slots }) he1 rfl
  have hd2 : ((h.push emptyDict).update e (fun o => { cls := o.cls, dict := some h.objs.size, data := o.data, slots := o.slots })).get? h.objs.size = some emptyDict :=
    (Heap.get?_update_other _ _ (Ne.symm hne)).trans (Heap.get?_push_size _ rfl)
  have hk2 : ∀ b o, b ≠ e → h.get? b = some o → ((h.push emptyDict).update e (fun o => { cls := o.cls, dict := some h.objs.size, data := o.data, slots := o.slots })).get? b = some o := fun b o hb q =>
    (Heap.get?_update_other _ _ (Ne.symm hb)).trans (Heap.get?_push_of_some _ q)
  replace he2 : _ = some (excO t (some h.objs.size)) := he2
  dsimp only at he2 hd2 hk2 ⊢
  generalize (h.push emptyDict).update e (fun o => { cls := o.cls, dict := some h.objs.size, data := o.data, slots := o.slots }) = h2 at he2 hd2 hk2 ⊢
  repeat lk
  have hp : Obj.putName name (PyData.keyHash w.params name) (.str name tk) v emptyDict = dictOf [⟨PyData.keyHash w.params name, .str name tk, v⟩] 1 := putName_dict name _ _ v [] 0
  have hd3 : (h2.update h.objs.size (Obj.putName name (PyData.keyHash w.params name) (.str name tk) v)).get? h.objs.size = some (dictOf [⟨PyData.keyHash w.params name, .str name tk, v⟩] 1) := by
    rw [Heap.get?_update_self _ hd2 (by rw [hp]; rfl), hp]
  refine wpAny_updatePart (a := h.objs.size) hd2 ?_
  refine wpAny_bind (wpAny_lookBehind hd3 (pastItsLine_dict (Nat.le_of_ble_eq_true rfl)) (wpAny_pure ?_))
  refine hq _ ((Heap.get?_update_other _ _ hne).trans he2) hd3 fun b o hb q => ?_
  have hbd : h.objs.size ≠ b := Nat.ne_of_gt (Heap.lt_size q)
  exact (Heap.get?_update_other _ _ hbd).trans (hk2 b o hb q)
set_option maxHeartbeats 400000 in
theorem store_old {e t dx : Addr} {name : Str} {nt : Tok} {v : Value} {es : List DictEntry} {n : Nat} (X : (Mine.hd.heap_39 w.params).In h) (he : h.get? e = some (excO t (some dx))) (hd : h.get? dx = some (dictOf es n)) (hr : es.any (·.refKey) = false) (hz : (putL name (PyData.keyHash w.params name) (.str name tk) v es).toArray.size ≤ sizeLine + 1)
    (hq : ∀ h', h'.get? dx = some (dictOf (putL name (PyData.keyHash w.params name) (.str name tk) v es) (putN name es n)) → (∀ b o, b ≠ dx → h.get? b = some o → h'.get? b = some o) →
      Q () ⟨h', g, d, tk + 1, os⟩) :
    wpAny (model Challenge.rw_xm0163_01.row.prog w) A (storeInOwnDict (.ref e) (.ref 45) (.str name nt) name v false) (fun fin s' => match fin with | .done (.ret _) => Q () s' | _ => False) E ⟨h, g, d, tk, os⟩ := by
  obtain ⟨dd, cd, sl, ho, e2, e4, e5, e6, e7⟩ := cls45 w
  have hC := X _ _ ho
  unfold storeInOwnDict ownDictForStores instanceDict
  repeat (first | simp only [e6, Bool.not_true, Bool.false_eq_true, if_false] | lk)
  have c : (!es.toArray.any (·.key.isStr name) && es.toArray.any (·.refKey)) = false := by
    rw [← Array.any_toList (p := fun x : DictEntry => x.refKey)]
    show (_ && es.any _) = false
    rw [hr, Bool.and_false]
  rw [aRefKeyMayBeTheName_at, c]
  have hne : e ≠ dx := fun q => by rw [q, hd] at he; cases he
  have hp : Obj.putName name (PyData.keyHash w.params name) (.str name tk) v (dictOf es n) = dictOf (putL name (PyData.keyHash w.params name) (.str name tk) v es) (putN name es n) := putName_dict name _ _ v es n
  have hd3 : (h.update dx (Obj.putName name (PyData.keyHash w.params name) (.str name tk) v)).get? dx = some (dictOf (putL name (PyData.keyHash w.params name) (.str name tk) v es) (putN name es n)) := by
    rw [Heap.get?_update_self _ hd (by rw [hp]; rfl), hp]
  refine wpAny_updatePart (a := dx) hd ?_
  refine wpAny_bind (wpAny_lookBehind hd3 (pastItsLine_dict hz) (wpAny_pure ?_))
  exact hq _ hd3 fun b o hb q => (Heap.get?_update_other _ _ (Ne.symm hb)).trans q
end
end Mine

end

section
open PySem PySem.W PyProof.Rows PySem.Calls Builtin Builtin.ObjectAttr
set_option Elab.async false
set_option maxRecDepth 100000
namespace Mine
section
variable {w : World} {A : Around} {E : Value → Shared → Prop} {s : Shared} {h₀ : Heap} {L : Addr} {m : Str → Option Value} {news : List (Addr × Obj)}
theorem fr_one {h h' : Heap} {e : Addr} {o : Obj} (F : Fr h₀ L h m) (N : News h₀ L h news) (hm : (e, o) ∈ news) (keep : ∀ b o, b ≠ e → h.get? b = some o → h'.get? b = some o) : Fr h₀ L h' m := by
  have z := N _ hm
  exact ⟨F.ns.at' fun o q => keep _ o (Ne.symm z.2.1) q, fun b o q => keep b o (fun r => by rw [r, z.2.2] at q; cases q) (F.keep b o q), F.above⟩
theorem base_init_K {Q : Value → Shared → Prop} {e t : Addr} {msg : Str} {tm : Tok} {f : Obj → List (Addr × Obj)} (F : Fr h₀ L s.heap m) (X₀ : (Mine.hd.heap_39 w.params).In h₀) (N : News h₀ L s.heap news) (U : ∀ o', Upd e (excO t none) o' news (f o'))
    (hq : ∀ t2 h', Fr h₀ L h' m → News h₀ L h' ((t2, tupO [.str msg tm]) :: f (excO t2 none)) → (∀ p ∈ news, p.1 < t2) → Q .none { s with heap := h' }) :
    wpAny (model Challenge.rw_xm0163_01.row.prog w) A (call (.builtin "Exception.__init__") [.ref e, .str msg tm]) Q E s := by
  obtain ⟨h, g, d, tk, os⟩ := s
  have he := (N _ (upd_mem (U default))).1
  have lt : ∀ p ∈ news, p.1 < h.objs.size := fun p hp => Heap.lt_size (N p hp).1
  have hne : h.objs.size ≠ e := Nat.ne_of_gt (Heap.lt_size he)
  have he1 : (h.push (tupO [.str msg tm])).get? e = some (excO t none) := Heap.get?_push_of_some _ he
  have he2 : ((h.push (tupO [.str msg tm])).update e (Obj.mapFields (·.setIfInBounds 0 (.ref h.objs.size)))).get? e = some (excO h.objs.size none) := Heap.get?_update_self _ he1 rfl
  have keep : ∀ b o, b ≠ e → h.get? b = some o → ((h.push (tupO [.str msg tm])).update e (Obj.mapFields (·.setIfInBounds 0 (.ref h.objs.size)))).get? b = some o := fun b o hb q =>
    (Heap.get?_update_other _ _ (Ne.symm hb)).trans (Heap.get?_push_of_some _ q)
  have ht : ((h.push (tupO [.str msg tm])).update e (Obj.mapFields (·.setIfInBounds 0 (.ref h.objs.size)))).get? h.objs.size = some (tupO [.str msg tm]) :=
    (Heap.get?_update_other _ _ (Ne.symm hne)).trans (Heap.get?_push_size _ rfl)
  refine exc_base_init (X₀.keeps F.keep) he (hq _ _ (fr_one F N (upd_mem (U default)) keep) (fun p hp => ?_) lt)
  rcases List.mem_cons.mp hp with rfl | hp
  · exact ⟨ht, (kdx_fresh F (Nat.le_refl _)).1, (kdx_fresh F (Nat.le_refl _)).2⟩
  · exact upd_pair (U _) N (fun q hq => by rw [List.mem_singleton.mp hq]; exact ⟨he2, (N _ (upd_mem (U default))).2⟩) keep p hp
theorem set_new_K {Q : Unit → Shared → Prop} {e t : Addr} {name : Str} {v : Value} {f : Obj → List (Addr × Obj)} (F : Fr h₀ L s.heap m) (X₀ : (Mine.hd.heap_39 w.params).In h₀) (N : News h₀ L s.heap news) (U : ∀ o', Upd e (excO t none) o' news (f o'))
    (hn : findIn (Mine.hd.heap_39 w.params) (.ref 45) name = some none)
    (hq : ∀ dx h' nt tk, Fr h₀ L h' m → News h₀ L h' ((dx, dictOf [⟨PyData.keyHash w.params name, .str name nt, v⟩] 1) :: f (excO t (some dx))) → (∀ p ∈ news, p.1 < dx) → Q () { s with heap := h', toks := tk }) :
    wpAny (model Challenge.rw_xm0163_01.row.prog w) A (setAttr (.ref e) name v) Q E s := by
  obtain ⟨h, g, d, tk, os⟩ := s
  have he := (N _ (upd_mem (U default))).1
  have lt : ∀ p ∈ news, p.1 < h.objs.size := fun p hp => Heap.lt_size (N p hp).1
  have X := X₀.keeps F.keep
  refine exc_set (od := none) X ⟨he, rfl, rfl, trivial⟩ hn (store_new X he fun h' e1 e2 keep => ?_)
  refine hq _ h' (tk + 1) _ (fr_one F N (upd_mem (U default)) keep) (fun p hp => ?_) lt
  rcases List.mem_cons.mp hp with rfl | hp
  · exact ⟨e2, (kdx_fresh F (Nat.le_refl _)).1, (kdx_fresh F (Nat.le_refl _)).2⟩
  · exact upd_pair (U _) N (fun q hq => by rw [List.mem_singleton.mp hq]; exact ⟨e1, (N _ (upd_mem (U default))).2⟩) keep p hp
theorem set_old_K {Q : Unit → Shared → Prop} {e t dx : Addr} {name : Str} {v : Value} {es : List DictEntry} {n : Nat} {f : Obj → List (Addr × Obj)} (F : Fr h₀ L s.heap m) (X₀ : (Mine.hd.heap_39 w.params).In h₀) (N : News h₀ L s.heap news) (hm : (e, excO t (some dx)) ∈ news) (U : ∀ o', Upd dx (dictOf es n) o' news (f o'))
    (hn : findIn (Mine.hd.heap_39 w.params) (.ref 45) name = some none) (hr : es.any (·.refKey) = false) (hz : ∀ k, (putL name (PyData.keyHash w.params name) (.str name k) v es).toArray.size ≤ sizeLine + 1)
    (hq : ∀ h' nt tk, Fr h₀ L h' m → News h₀ L h' (f (dictOf (putL name (PyData.keyHash w.params name) (.str name nt) v es) (putN name es n))) → Q () { s with heap := h', toks := tk }) :
    wpAny (model Challenge.rw_xm0163_01.row.prog w) A (setAttr (.ref e) name v) Q E s := by
  obtain ⟨h, g, d, tk, os⟩ := s
  have he := (N _ hm).1
  have hd := (N _ (upd_mem (U default))).1
  have X := X₀.keeps F.keep
  refine exc_set (od := some (dictOf es n)) X ⟨he, rfl, rfl, hd⟩ hn (store_old X he hd hr (hz _) fun h' e1 keep => ?_)
  exact hq h' (tk + 1) _ (fr_one F N (upd_mem (U default)) keep) (upd_pair (U _) N (fun q hq => by rw [List.mem_singleton.mp hq]; exact ⟨e1, (N _ (upd_mem (U default))).2⟩) keep)
end
end Mine

end

section
open PySem PySem.W PyProof.Rows PySem.Calls Builtin Builtin.ObjectAttr
set_option Elab.async false
namespace Mine
theorem meta_exc : typeOf (.type "Exception") = pure (.type "type") := by first | rfl | (unfold typeOf; kernel_rfl) | kernel_rfl
local macro_rules | `(tactic| walk_at "getMethod type:Exception") => `(tactic| (k_here; refine' method_type ?F ?X ?m (by decide +kernel) ?e ?h ?_; (case F => k_asm); (case X => k_asm); (case m => exact meta_exc); (case e => k_dflt k_is); (case h => k_handed)))
local macro_rules | `(tactic| walk_at "call builtin:Exception.__init__") => `(tactic| (k_here; k_dflt (refine' base_init_K ?F ?X ?N ?U ?_; (case F => k_asm); (case X => k_asm); (case N => k_asm); (case U => (intro _; k_upd)); k_whole); intro t2 h' F' N' l1; (try dsimp only at N'); (try k_lt l1); (try k_sweep)))
local macro_rules | `(tactic| walk_at "setAttr ref") => `(tactic| (k_here; k_dflt (refine' set_new_K ?F ?X ?N ?U ?n ?_; (case F => k_asm); (case X => k_asm); (case N => k_asm); (case U => (intro _; k_upd)); (case n => k_is); k_whole); intro dx h' nt tk F' N' l1; (try dsimp only at N'); (try k_lt l1); (try k_sweep)))
local macro_rules | `(tactic| walk_at "setAttr ref") => `(tactic| (k_here; k_dflt (refine' set_old_K ?F ?X ?N ?M ?U ?n ?r ?z ?_; (case F => k_asm); (case X => k_asm); (case N => k_asm); (case M => k_mem); (case U => (intro _; k_upd)); (case n => k_is); (case r => rfl); (case z => (intro _; exact Nat.le_of_ble_eq_true rfl)); k_whole); intro h' nt tk F' N'; (try dsimp only at N'); (try k_sweep)))
abbrev faultD (w : World) (msg : Str) (tm : Tok) (sp : Int) (ts n1 n2 : Tok) : Obj := dictOf [⟨PyData.keyHash w.params (Str.ofString "message"), .str (Str.ofString "message") n1, .str msg tm⟩, ⟨PyData.keyHash w.params (Str.ofString "spot"), .str (Str.ofString "spot") n2, .int sp ts⟩] 2
set_option maxRecDepth 100000 in
set_option maxHeartbeats 1000000 in
theorem init_spec {w : World} {mean : ExcName → Option Value} {mg mb : Str → Option Value} {A : Around} {env : Env} {outer : List Env} {A₀ : Around} {base h₀ : Heap} {L : Addr} {m : Str → Option Value} {s : Shared} {R : Result → Shared → Prop}
    (B : Below A₀ base outer h₀) (F : Fr h₀ L s.heap m) (X : (Mine.hd.heap_39 w.params).In h₀) (T : Top Mine.hd.view_39 (looseW Mine.hd.view_39 [Str.ofString "ChanError"]) mean mg mb h₀)
    (hA : A.frames = some (env :: outer)) (hf : env.frame = some L) (hke : env.scope.kind = .function) (hroom : A.depth < recursionLimit)
    {e t : Addr} {msg : Str} {tm ts : Tok} {sp : Int} (N : News h₀ L s.heap [(e, excO t none)])
    (ret : ∀ dx t2 n1 n2 h' tk', News h₀ L h' [(dx, faultD w msg tm sp ts n1 n2), (t2, tupO [.str msg tm]), (e, excO t2 (some dx))] → Fr h₀ L h' m → (∀ b o, b ≠ e → s.heap.get? b = some o → h'.get? b = some o) → s.heap.get? dx = none → s.heap.get? t2 = none →
      R (.ok (.ret .none)) { s with heap := h', toks := tk' }) :
    codeAny (model Challenge.rw_xm0163_01.row.prog w) A (.call (.ref 29) ⟨[.ref e, .str msg tm, .int sp ts], []⟩) R s := by
  revert X; k_fill; intro X
  refine' code_defG B F X N T hA hf hke ?k6 ?k7 hroom ?k9 ?kB ?_ ?c2 ?c3 ?c4 ?c5
  case k6 => k_is
  case k7 => k_is
  case k9 => first | exact BindsTo.of_eq rfl | exact binds_K (by k_in) rfl (by k_is) rfl rfl rfl
  case kB => exact locs rfl
  case c2 => exact rfl
  case c3 => exact rfl
  case c4 => exact rfl
  case c5 => decide
  intro g' L' h' FG' F' N' B' X' T' kG'
  (try dsimp only)
  (try k_fold)
  w_top off
  k_steps
  rename News g' _ _ _ => N9
  rename News h₀ _ _ _ => N8
  rename Fr g' _ _ _ => F9
  rename Fr h₀ _ _ _ => F8
  have fr : ∀ b, g'.get? b = none → b ≠ e → s.heap.get? b = none := fun b hb hne => by
    cases q : s.heap.get? b with
    | none => rfl
    | some o => have := kG' b o q (by simpa using hne); rw [hb] at this; cases this
  have z1 := N9 _ (.head _)
  have z2 := N9 _ (.tail _ (.head _))
  have z3 := N9 _ (.tail _ (.tail _ (.head _)))
  refine ret _ _ _ _ _ _ N8 F8 (fun b o hb q => F9.keep b o (kG' b o q (by simpa using hb))) (fr _ z1.2.2 fun q => ?_) (fr _ z2.2.2 fun q => ?_)
  · have := z1.1; rw [q, z3.1] at this; cases this
  · have := z2.1; rw [q, z3.1] at this; cases this
end Mine

end

section
open PySem PySem.W PyProof.Rows PySem.Calls Builtin Builtin.ObjectAttr
set_option Elab.async false
set_option maxRecDepth 100000
namespace Mine
theorem exc_call {w : World} {mean : ExcName → Option Value} {mg mb : Str → Option Value} {A : Around} {env : Env} {outer : List Env} {A₀ : Around} {base h₀ : Heap} {L : Addr} {m : Str → Option Value} {s : Shared} {news : List (Addr × Obj)} {Q E : Value → Shared → Prop}
    (B : Below A₀ base outer h₀) (F : Fr h₀ L s.heap m) (X : (Mine.hd.heap_39 w.params).In h₀) (N : News h₀ L s.heap news) (T : Top Mine.hd.view_39 (looseW Mine.hd.view_39 [Str.ofString "ChanError"]) mean mg mb h₀)
    (hA : A.frames = some (env :: outer)) (hf : env.frame = some L) (hke : env.scope.kind = .function) (hroom : A.depth + 1 < recursionLimit)
    {msg : Str} {tm ts : Tok} {sp : Int}
    (ret : ∀ e t2 dx n1 n2 h' tk', Fr h₀ L h' m → News h₀ L h' ((e, excO t2 (some dx)) :: (t2, tupO [.str msg tm]) :: (dx, faultD w msg tm sp ts n1 n2) :: news) → (∀ b o, s.heap.get? b = some o → h'.get? b = some o) → s.heap.get? e = none → s.heap.get? t2 = none →
      Q (.ref e) { s with heap := h', toks := tk' }) :
    wpAny (model Challenge.rw_xm0163_01.row.prog w) A (call (.ref 45) [.str msg tm, .int sp ts]) Q E s := by
  obtain ⟨h, g, d, tk, os⟩ := s
  have X1 := X.keeps F.keep
  refine wpAny_call (exc_make X1 (Nat.le_of_ble_eq_true rfl) ?_)
  have k2 : ∀ b o, h.get? b = some o → ((h.push (tupO [.str msg tm, .int sp ts])).push (excO h.objs.size none)).get? b = some o := fun b o e => Heap.get?_push_of_some _ (Heap.get?_push_of_some _ e)
  have hx : ((h.push (tupO [.str msg tm, .int sp ts])).push (excO h.objs.size none)).get? (h.objs.size + 1) = some (excO h.objs.size none) := by
    have := Heap.get?_push_size (h.push (tupO [.str msg tm, .int sp ts])) (o := excO h.objs.size none) rfl
    rw [Heap.size_push] at this
    exact this
  have fr := (kdx_fresh (L := L) F (Nat.le_succ h.objs.size)).symm
  refine init_spec (e := h.objs.size + 1) (t := h.objs.size) (outer := outer) (env := env) B ((F.push _).push _) X T (hA := ?_) hf hke (hroom := ?_) (fun p hp => by rw [List.mem_singleton.mp hp]; exact ⟨hx, fr.2, fr.1⟩) ?_
  · exact hA
  · show (A.under _).depth < recursionLimit
    rw [depth_under_make]; exact hroom
  · intro dx t2 n1 n2 h' tk' N1 F1 kp e1 e2
    refine ⟨rfl, ret _ t2 dx n1 n2 h' tk' F1 (fun p hp => ?_) (fun b o q => kp b o (fun r => ?_) (k2 b o q)) (Heap.get?_none_of_le (Nat.le_succ _)) ?_⟩
    · rcases List.mem_cons.mp hp with rfl | hp
      · exact N1 _ (.tail _ (.tail _ (.head _)))
      · rcases List.mem_cons.mp hp with rfl | hp
        · exact N1 _ (.tail _ (.head _))
        · rcases List.mem_cons.mp hp with rfl | hp
          · exact N1 _ (.head _)
          · have z := N p hp
            refine ⟨kp _ _ (fun r => ?_) (k2 _ _ z.1), z.2⟩
            have := Heap.lt_size z.1
            rw [r] at this
            exact absurd this (Nat.not_lt.mpr (Nat.le_succ _))
    · have := Heap.lt_size q
      rw [r] at this
      exact absurd this (Nat.not_lt.mpr (Nat.le_succ _))
    · cases q : h.get? t2 with
      | none => rfl
      | some o => rw [k2 _ _ q] at e2; cases e2
end Mine

end

section
open PySem PySem.W PyProof.Rows PySem.Calls
set_option Elab.async false
namespace Mine
/-- an exception with an own dict and a traceback, in flight over the frames `l` -/
def DSt (base : Heap) (l : List Env) (e : Addr) (cls a0 fl : Value) (D : Option Addr) (h : Heap) : Prop :=
  base.StaysIn h ∧ base.get? e = none ∧ h.FunFrames base l ∧
  ∃ oe vs T oT ts, (h.get? e = some oe ∧ oe.cls = cls ∧ oe.dict = D) ∧ (oe.data = .fields vs ∧ vs[0]? = some a0 ∧ vs[1]? = some (.ref T)) ∧ (base.get? T = none ∧ T ≠ e) ∧ h.get? T = some oT ∧ oT.data = .fields ts ∧ ts[3]? = some fl
theorem DSt.drop {base h : Heap} {env : Env} {l : List Env} {e : Addr} {cls a0 fl : Value} {D : Option Addr} (x : DSt base (env :: l) e cls a0 fl D h) : DSt base l e cls a0 fl D h :=
  let ⟨a, b, ⟨_, _, c⟩, d⟩ := x; ⟨a, b, c, d⟩
section
variable {M : Model} {A : Around} {E : Value → Shared → Prop} {s : Shared} {base : Heap} {env : Env} {outer l : List Env} {L e : Addr} {cls a0 fl head : Value} {D : Option Addr} {Q : Unit → Shared → Prop} {vs : Array Value} {oe : Obj} {hadNext : Bool}
theorem dict_mapFields (o : Obj) (f : Array Value → Array Value) : (o.mapFields f).dict = o.dict := by
  obtain ⟨_, _, d, _⟩ := o
  cases d <;> rfl
theorem not_fields {h : Heap} {b : Addr} {o : Obj} {vs : Array Value} (e : h.get? b = some o) (d : o.data = .fields vs) {b' : Addr} {o' : Obj} (e' : h.get? b' = some o') (n : ∀ vs, o'.data ≠ .fields vs) : b' ≠ b := fun q => by
  rw [q, e] at e'; injection e' with e'; subst e'; exact n vs d
theorem entryD (hfr : A.frames = some (env :: outer)) (hl : s.heap.FunFrames base (env :: outer)) (hf : env.frame = some L)
    (he : s.heap.get? e = some oe) (hc : oe.cls = cls) (hD : oe.dict = D) (hkb : base.StaysIn s.heap) (hen : base.get? e = none) (hd : oe.data = .fields vs) (hsz : 1 < vs.size) (h0 : vs[0]? = some a0)
    (h : ∀ h', DSt base (env :: outer) e cls a0 (rawInt L) D h' → s.heap.UpToSlots h' → Q () { s with heap := h' }) :
    wpAny M A (do let a ← frameOf env; let pl ← entryPlaceOf L hadNext; let b ← EntryCells.newEntry head a .none (rawInt L) .none pl; setField (.ref e) 1 b) Q E s := by
  have hene : e ∉ (env :: outer).filterMap (·.frame) := fun hm => by
    obtain ⟨_, o, ho, hnf⟩ := hl.mem hm
    exact not_fields he hd ho hnf rfl
  refine wpAny_bind (wpAny_frameOf_fun hfr hl hf fun h₁ hs₁ => ?_)
  refine wpAny_bind (wpAny_entryPlaceOf fun pl hpl => ?_)
  unfold EntryCells.newEntry newFields
  refine wpAny_bind (wpAny_newObj_type ?_ (hpl.sizeOk5 _ _ _ _ _))
  have he₁ : h₁.get? e = some oe := (hs₁.2.1 e hene).trans he
  have kb₁ : base.StaysIn h₁ := fun b o hbo => (hs₁.2.1 b fun hm => by rw [(hl.mem hm).1] at hbo; cases hbo).trans (hkb b o hbo)
  generalize hoT : ({ cls := .type "traceback", dict := none, data := .fields ([head, .ref L, .none, rawInt L, .none] ++ (if pl.isEmpty then List.replicate 6 Value.none else pl)).toArray } : Obj) = oT
  have he₂ := Heap.get?_push_of_some (h := h₁) oT he₁
  refine wpAny_setField he₂ hd hsz (h _ ?_ ?_)
  all_goals
    have hTe : h₁.objs.size ≠ e := Nat.ne_of_gt (Heap.lt_size he₁)
    have hd₃ := Obj.data_mapFields hd (·.setIfInBounds 1 (Value.ref h₁.objs.size))
    have he₃ := Heap.get?_update_self (Obj.mapFields (·.setIfInBounds 1 (Value.ref h₁.objs.size))) he₂ (Obj.isFreed_of_fields hd₃)
    have hT₃ := (Heap.get?_update_other (h₁.push oT) (Obj.mapFields (·.setIfInBounds 1 (Value.ref h₁.objs.size))) (Ne.symm hTe)).trans (Heap.get?_push_size h₁ (by rw [← hoT]; rfl))
    have keep : ∀ b o, b ≠ e → h₁.get? b = some o → ((h₁.push oT).update e (Obj.mapFields (·.setIfInBounds 1 (Value.ref h₁.objs.size)))).get? b = some o := fun b o hbe hb => by
      rw [Heap.get?_update_other _ _ (Ne.symm hbe)]
      exact Heap.get?_push_of_some _ hb
  · refine ⟨fun b o hbo => keep b o (fun q => by rw [q, hen] at hbo; cases hbo) (kb₁ b o hbo), hen, hl.of_keeps fun b o hb hnf => ?_, ?_⟩
    · obtain ⟨sl, hs⟩ := hs₁.2.2 b o hb
      exact ⟨_, keep b _ (not_fields he hd hb hnf) hs, rfl⟩
    · refine ⟨_, _, h₁.objs.size, oT, ([head, .ref L, .none, rawInt L, .none] ++ (if pl.isEmpty then List.replicate 6 Value.none else pl)).toArray, ⟨he₃, (Obj.cls_mapFields _ _).trans hc, (dict_mapFields _ _).trans hD⟩, ⟨hd₃, by rw [Array.getElem?_setIfInBounds_ne (by decide)]; exact h0, by simp [hsz]⟩, ⟨kb₁.fresh, hTe⟩, hT₃, by rw [← hoT], ?_⟩
      first | (simp; done) | (rcases hpl with rfl | ⟨_, _, _, _, _, _, _, rfl⟩ <;> simp)
  · intro b o hb hnf
    obtain ⟨sl, hs⟩ := hs₁.2.2 b o hb
    exact ⟨sl, keep b _ (not_fields he hd hb hnf) hs⟩
theorem noteFirstD (hfr : A.frames = some (env :: outer)) (hl : s.heap.FunFrames base (env :: outer)) (hf : env.frame = some L)
    (he : s.heap.get? e = some oe) (hc : oe.cls = cls) (hD : oe.dict = D) (hkb : base.StaysIn s.heap) (hen : base.get? e = none) (hd : oe.data = .fields vs) (h1 : vs[1]? = some .none) (h0 : vs[0]? = some a0)
    (h : ∀ h', DSt base (env :: outer) e cls a0 (rawInt L) D h' → s.heap.UpToSlots h' → Q () { s with heap := h' }) : wpAny M A (noteFrame (.ref e) env) Q E s := by
  unfold noteFrame
  simp only [hf]
  refine wpAny_bind (wpAny_field he hd h1 ?_)
  rw [if_neg (by decide)]
  exact entryD hfr hl hf he hc hD hkb hen hd (Array.getElem?_eq_some_iff.mp h1).1 h0 h
theorem noteOnD (hfr : A.frames = some (env :: outer)) (hf : env.frame = some L) (x : DSt base (env :: outer) e cls a0 .none D s.heap)
    (h : ∀ h', DSt base (env :: outer) e cls a0 (rawInt L) D h' → s.heap.UpToSlots h' → Q () { s with heap := h' }) : wpAny M A (noteFrame (.ref e) env) Q E s := by
  obtain ⟨hkb, hen, hl, oe, vs, T, oT, ts, ⟨he, hc, hD⟩, ⟨hd, h0, h1⟩, ⟨hnT, hTe⟩, hT, hdT, h3⟩ := x
  unfold noteFrame
  simp only [hf]
  refine wpAny_bind (wpAny_field he hd h1 ?_)
  rw [if_pos (show (Value.ref T != Value.none) = true from by simp)]
  refine wpAny_bind (wpAny_field hT hdT h3 ?_)
  rw [if_neg (show ¬ ((Value.none == rawInt L) = true) from by simp [rawInt])]
  refine wpAny_bind (wpAny_setField hT hdT (Array.getElem?_eq_some_iff.mp h3).1 ?_)
  have other : ∀ b, b ≠ T → (s.heap.update T (Obj.mapFields (·.setIfInBounds 3 Value.none))).get? b = s.heap.get? b := fun b hb => Heap.get?_update_other _ _ (Ne.symm hb)
  have up : s.heap.UpToSlots (s.heap.update T (Obj.mapFields (·.setIfInBounds 3 Value.none))) := fun b o hb hnf => ⟨o.slots, (other b (not_fields hT hdT hb hnf)).trans hb⟩
  exact entryD hfr (hl.of_keeps fun b o hb hnf => ⟨o, (other b (not_fields hT hdT hb hnf)).trans hb, rfl⟩) hf ((other e (Ne.symm hTe)).trans he) hc hD
    (fun b o hbo => (other b fun q => by rw [q, hnT] at hbo; cases hbo).trans (hkb b o hbo)) hen hd (Array.getElem?_eq_some_iff.mp h1).1 h0 fun h' x u => h h' x (up.trans u)
theorem flightD (x : DSt base l e cls a0 fl D s.heap)
    (h : ∀ h', DSt base l e cls a0 .none D h' → s.heap.UpToSlots h' → Q () { s with heap := h' }) : wpAny M A (setFlight (.ref e) none) Q E s := by
  obtain ⟨hkb, hen, hl, oe, vs, T, oT, ts, ⟨he, hc, hD⟩, ⟨hd, h0, h1⟩, ⟨hnT, hTe⟩, hT, hdT, h3⟩ := x
  have hsz3 : 3 < ts.size := (Array.getElem?_eq_some_iff.mp h3).1
  have other : ∀ b, b ≠ T → (s.heap.update T (Obj.mapFields (·.setIfInBounds 3 ((none : Option Addr).elim Value.none fun f => rawInt f)))).get? b = s.heap.get? b :=
    fun b hb => Heap.get?_update_other _ _ (Ne.symm hb)
  unfold setFlight
  refine wpAny_bind (wpAny_field he hd h1 ?_)
  rw [if_pos (show (Value.ref T != Value.none) = true from by simp)]
  refine wpAny_setField hT hdT hsz3 (h _ ⟨fun b o hbo => (other b fun q => by rw [q, hnT] at hbo; cases hbo).trans (hkb b o hbo), hen,
    hl.of_keeps fun b o hb hnf => ⟨o, (other b (not_fields hT hdT hb hnf)).trans hb, rfl⟩, ?_⟩ fun b o hb hnf => ⟨o.slots, (other b (not_fields hT hdT hb hnf)).trans hb⟩)
  exact ⟨oe, vs, T, _, _, ⟨(other e (Ne.symm hTe)).trans he, hc, hD⟩, ⟨hd, h0, h1⟩, ⟨hnT, hTe⟩, Heap.get?_update_self _ hT (Obj.isFreed_of_fields (Obj.data_mapFields hdT _)), Obj.data_mapFields hdT _, by simp [hsz3]⟩
theorem leavingD (hfr : A.frames = some (env :: outer)) (hl : s.heap.FunFrames base (env :: outer)) (hf : env.frame = some L)
    (he : s.heap.get? e = some oe) (hc : oe.cls = cls) (hD : oe.dict = D) (hkb : base.StaysIn s.heap) (hen : base.get? e = none) (hd : oe.data = .fields vs) (h1 : vs[1]? = some .none) (h0 : vs[0]? = some a0)
    (h : ∀ h', DSt base outer e cls a0 .none D h' → s.heap.UpToSlots h' → Q () { s with heap := h' }) : wpAny M A (leaving env (.ref e)) Q E s := by
  unfold leaving
  exact wpAny_bind (noteFirstD hfr hl hf he hc hD hkb hen hd h1 h0 fun h₁ x u => flightD x fun h₂ y v => h _ y.drop (u.trans v))
end
end Mine

end

section
open PySem PySem.Spec PySem.W PyProof.Rows PySem.Calls
set_option Elab.async false
namespace Mine
/-- over the frames `l` an exception flies, with its dict; `news` and all that stood in `G` stay, the frames up to their slots -/
def RaisedD (base G : Heap) (l : List Env) (e : Addr) (cls : Value) (t : Addr) (D : Option Addr) (news : List (Addr × Obj)) (h : Heap) : Prop :=
  ∃ B, base.StaysIn B ∧ (∀ b o, G.get? b = some o → b ∉ l.filterMap (·.frame) → B.get? b = some o) ∧ (∀ q ∈ news, B.get? q.1 = some q.2 ∧ G.get? q.1 = none) ∧ DSt B l e cls (.ref t) .none D h ∧ G.get? e = none
section
variable {M : Model} {A : Around} {E : Value → Shared → Prop} {s' : Shared} {base g G h : Heap} {outer : List Env} {L a e t : Addr} {m : Str → Option Value} {name : Str} {scope : Scope} {cd : Value} {Q : Unit → Shared → Prop} {news : List (Addr × Obj)} {D : Option Addr}
theorem memE {env : Env} {b : Addr} (hf : env.frame = some L) (hm : b ∈ (env :: outer).filterMap (·.frame)) : b = L ∨ b ∈ outer.filterMap (·.frame) := by
  obtain ⟨env', he, hf'⟩ := List.mem_filterMap.mp hm
  rcases List.mem_cons.mp he with rfl | he
  · rw [hf] at hf'; exact .inl (Option.some.inj hf').symm
  · exact .inr (List.mem_filterMap.mpr ⟨env', he, hf'⟩)
theorem leaveD {env : Env} (hfe : env.frame = some L) (hk : env.scope.kind = .function) (K : Below A base outer g) (F : Fr g L s'.heap m) (N : News g L s'.heap ((e, excO t D) :: news)) (hne : ∀ p ∈ news, p.1 ≠ e)
    (hQ : ∀ h', RaisedD base g outer e (.ref 45) t D news h' → g.UpToSlots h' → Q () { s' with heap := h' }) :
    wpAny M (A.deeper env) (leaving env (.ref e)) Q E s' := by
  have K' := pushX K F hfe hk
  have z := N _ (.head _)
  generalize hl : (e :: (env :: outer).filterMap (·.frame)) = as
  have hin : ∀ ev ∈ (env :: outer), ∀ b, ev.frame = some b → b ∈ as := fun ev he b hb => by rw [← hl]; exact .tail _ (List.mem_filterMap.mpr ⟨ev, he, hb⟩)
  have ge : g.get? e = none := z.2.2
  have eb : base.get? e = none := fresh_of_stays K.stays ge
  have st : base.StaysIn (hideAll s'.heap as) := fun b o q => hideAll_get _ (K'.stays b o q) fun hm => by
    rw [← hl] at hm
    rcases List.mem_cons.mp hm with r | r
    · rw [r, eb] at q; cases q
    · rw [(K'.frames.mem r).1] at q; cases q
  have sg : ∀ b o, g.get? b = some o → b ∉ outer.filterMap (·.frame) → (hideAll s'.heap as).get? b = some o := fun b o q nm => hideAll_get _ (F.keep b o q) fun hm => by
    rw [← hl] at hm
    rcases List.mem_cons.mp hm with r | r
    · rw [r, ge] at q; cases q
    rcases memE hfe r with z | z
    · rw [z, kts_self F] at q
      cases q
    · exact nm z
  have hn : ∀ q ∈ news, (hideAll s'.heap as).get? q.1 = some q.2 ∧ g.get? q.1 = none := fun q hq => by
    have x := N q (.tail _ hq)
    refine ⟨hideAll_get _ x.1 fun hm => ?_, x.2.2⟩
    rw [← hl] at hm
    rcases List.mem_cons.mp hm with r | r
    · exact hne q hq r
    rcases memE hfe r with r | r
    · exact x.2.1 r
    · obtain ⟨o, ho, _⟩ := (K.frames.mem r).2
      rw [x.2.2] at ho; cases ho
  refine leavingD (base := hideAll s'.heap as) (a0 := .ref t) K'.stack (funFrames_hide K'.frames hin) hfe z.1 rfl rfl (fun b o q => of_hideAll _ q) (hideAll_none _ (by rw [← hl]; exact .head _)) rfl rfl rfl fun h' x u => ?_
  exact hQ h' ⟨_, st, sg, hn, x, ge⟩ ((Heap.UpToSlots.of_keeps F.keep).trans u)
end
section
variable {prog : Program} {w : World} {A₀ : Around} {E : Value → Shared → Prop} {s' : Shared} {base g g₀ G : Heap} {outer : List Env} {L a e t C : Addr} {m : Str → Option Value} {name : Str} {scope : Scope} {cd : Value}
  {n : Str} {b₀ : Stmt} {suite : List Stmt} {pos np : Pos} {rest : List ExceptHandler} {Q : Flow → Shared → Prop} {news : List (Addr × Obj)} {KF : Frag} {D : Option Addr}
  {p : Program} {loose : List Str} {mean : ExcName → Option Value} {mg mb : Str → Option Value} {x : Str}
theorem caughtD (R : RaisedD base G (envOf name scope L a cd :: outer) e (.ref C) t D news s'.heap) (F : Fr g L G m) (K : Below A₀ base outer g) (hsm : G.UpToSlots s'.heap) (XB : KF.In base) (TB : Top p loose mean mg mb base)
    (KD : KtsDicts (outer.filterMap (·.frame)) g) (T0 : KtsTurn (outer.filterMap (·.frame)) g₀ g)
    (ex : nsIn KF mainGlobals x = some (some (.ref C))) (q : ktsIn KF C "BaseException" = true)
    (k : ∀ h' g' oe tk, oe.cls = .ref C → oe.dict = D → (∃ vs, oe.data = .fields vs) → KtsTurn (outer.filterMap (·.frame)) g₀ g' → Fr g' L h' (fun y => if y = n then some (.ref e) else m y) → News g' L h' ((e, oe) :: news) → Below A₀ base outer g' → KF.In g' → Top p loose mean mg mb g' → KtsDicts (outer.filterMap (·.frame)) g' →
      wpAny (model prog w) ((A₀.deeper (envOf name scope L a cd)).mark (some (.ref e))) (execs (b₀ :: suite) (envOf name scope L a cd))
        (fun f s₄ => wpAny (model prog w) (A₀.deeper (envOf name scope L a cd)) (do bindName (envOf name scope L a cd) n .none; unbindBehindTheSuite (envOf name scope L a cd) n pos) (fun _ s₅ => Q f s₅) E s₄)
        (AsSuiteRaised (model prog w) ((A₀.deeper (envOf name scope L a cd)).mark (some (.ref e))) (envOf name scope L a cd) n pos (notedBy (model prog w) ((A₀.deeper (envOf name scope L a cd)).mark (some (.ref e))) (envOf name scope L a cd) (cameBackBy (model prog w) (A₀.deeper (envOf name scope L a cd)) (envOf name scope L a cd) E)))
        { s' with heap := h', toks := tk })
    (hk : scope.kind = .function := by rfl) (hlo : (envOf name scope L a cd).kindOf n = some .local := by rfl) (hx : (envOf name scope L a cd).kindOf x = some .globalImplicit := by rfl) (hd : (x == ("__debug__" : Str)) = false := by decide) :
    wpAny (model prog w) (A₀.deeper (envOf name scope L a cd)) (noteFrame (.ref e) (envOf name scope L a cd))
      (fun _ s₂ => wpAny (model prog w) (A₀.deeper (envOf name scope L a cd)) (setFlight (.ref e) none) (fun _ s₃ =>
        wpAny (model prog w) (A₀.deeper (envOf name scope L a cd)) (handleBy (.ref e) (envOf name scope L a cd) (.ExceptHandler (some (.Name x np)) (some n) (b₀ :: suite) pos :: rest)) Q E s₃) E s₂) E s' := by
  obtain ⟨B, hB, hBG, hl, hfl, hGe⟩ := R
  have hL : B.get? L = none := by
    obtain ⟨_, ⟨L', _, hf, hn', _⟩, _⟩ := hfl.2.2.1
    obtain rfl : L = L' := Option.some.inj hf
    exact hn'
  refine noteOnD (Around.frames_deeper K.stack) rfl hfl fun h₄ hheld₄ hsm₄ => ?_
  refine flightD hheld₄ fun h₅ hheld hsm₅' => ?_
  have hsm₅ := hsm₄.trans hsm₅'
  obtain ⟨g₅, T₅, F₅, K₅⟩ := kts_ground K F hBG hheld.1 (hsm.trans hsm₅)
  have X₅ : KF.In g₅ := XB.keeps K₅.stays
  have P₅ : TopRead p loose mg mb g₅ := topRead_of (TB.keeps K₅.stays)
  obtain ⟨_, _, _, ob, vs₅, _, _, _, ⟨hob, hobc, hobD⟩, ⟨hobd, _, _⟩, _⟩ := id hheld
  obtain ⟨nm, q', N, bs, bm, hdct, sn, sub, ab, col, dd, k0, k1, k2, k3, k5, newId, hC, hbase, hbT⟩ := kts_cls X₅ q
  have hC₅ := F₅.keep _ _ hC
  refine wpAny_handleBy_cons (codeAny_handlers_test (name_K F₅ X₅ P₅ ex ?_ hk hx hd)) (by intro q; cases q)
  refine wpAny_excMatches_sub_self hC₅ hob hobc hbase (codeAny_handlers_suite_as ?_)
  refine flightD hheld fun h₆ hfl₆ hsm₆ => ?_
  obtain ⟨g₆, T₆, F₆, K₆⟩ := kts_ground K F hBG hfl₆.1 ((hsm.trans hsm₅).trans hsm₆)
  obtain ⟨_, he₆, _, oe, ws, _, _, _, ⟨hoe, hoec, hoeD⟩, ⟨hoed, _, _⟩, _⟩ := id hfl₆
  have ge : g.get? e = none := kts_none F.keep hGe
  have ne₆ : g₆.get? e = none := T₆.none_ _ ge
  have Le : e ≠ L := fun r => by
    obtain ⟨_, ⟨L', o, hf, hn', ho', hd'⟩, _⟩ := hfl₆.2.2.1
    obtain rfl : L = L' := Option.some.inj hf
    rw [r] at hoe
    rw [hoe] at ho'
    cases ho'
    exact hd' _ hoed
  have Nl : News g₆ L h₆ ((e, oe) :: news) := fun q hq => by
    rcases List.mem_cons.mp hq with rfl | hq
    · exact ⟨hoe, Le, ne₆⟩
    · exact ⟨hfl₆.1 _ _ (hl q hq).1, (fun z => by have := (hl q hq).1; rw [z, hL] at this; cases this), T₆.none_ _ (kts_none F.keep (hl q hq).2)⟩
  have X₆ : KF.In g₆ := XB.keeps K₆.stays
  have P₆ : Top p loose mean mg mb g₆ := TB.keeps K₆.stays
  have D₆ : KtsDicts (outer.filterMap (·.frame)) g₆ := KD.turn T₆
  refine stN F₆ (news := (e, oe) :: news) Nl (fun h₇ F₇ N₇ => ?_) hk hlo
  exact k h₇ g₆ oe _ hoec hoeD ⟨_, hoed⟩ (T0.trans T₆) F₇ N₇ K₆ X₆ P₆ D₆
end
theorem raise_exc {prog : Program} {w : World} {A : Around} {E : Value → Shared → Prop} {s : Shared} {env : Env} {x : Sem Value} {Q : Flow → Shared → Prop} (hh : A.handled = none)
    (h : wpAny (model prog w) A x (fun v s₁ => ∃ e t D, v = .ref e ∧ (Mine.hd.heap_39 w.params).In s₁.heap ∧ s₁.heap.get? e = some (excO t D) ∧ E (.ref e) s₁) E s) :
    wpAny (model prog w) A (raiseStmt env (some x) none) Q E s := by
  unfold raiseStmt
  refine wpAny_bind (wpAny_mono h (fun v s₁ h₁ => ?_) fun _ _ x => x)
  obtain ⟨e, t, D, rfl, X, he, hE⟩ := h₁
  have t1 : Looks (model prog w) s₁.heap (typeOf (.ref e)) (.ref 45) := (Looks.ld he).andThen .now
  have sE : Looks (model prog w) s₁.heap (isSubtype (.ref 45) (.type "BaseException")) true := looks_subIn X (by rfl)
  have sT : Looks (model prog w) s₁.heap (isSubtype (.ref 45) (.type "type")) false := looks_subIn X (by rfl)
  obtain ⟨dd, cd, sl, ho, e2, e4, e5, e6, e7⟩ := cls45 w
  unfold excFromValue isExcClass isType isInstance
  repeat (first | lk | with_reducible exact wpAny_raiseNew_none hh hE | simp only [Bool.false_eq_true, if_false, if_true])
  refine wpAny_loadPart_at (X _ _ ho) ?_
  refine wpAny_pure (wpAny_pure ?_)
  refine wpAny_bind ?_
  unfold setFlight
  refine wpAny_bind (wpAny_field he rfl (x := .none) rfl ?_)
  rw [if_neg (by decide)]
  exact wpAny_pure (wpAny_raiseNew_none hh hE)
end Mine

end

section
open PySem PySem.Spec PySem.W PyProof.Rows PySem.Calls
set_option Elab.async false
set_option maxRecDepth 100000
namespace Mine
section
variable {w : World} {A : Around} {E : Value → Shared → Prop} {s : Shared} {Q : Value → Shared → Prop}
theorem exc_get {e : Addr} {oe od : Obj} {name : Str} {v : Value} {expr : Bool} (X : (Mine.hd.heap_39 w.params).In s.heap) (I : W.InstAt s.heap e oe 45 (some od)) (hf : findObj (Mine.hd.heap_39 w.params) 45 (some od) name = some (.value v)) (hh : handedIn v = true)
    (h : Q v { s with toks := s.toks + 1 }) : wpAny (model Challenge.rw_xm0163_01.row.prog w) A (getAttr (.ref e) name expr) Q E s := by
  have sub : Looks (model Challenge.rw_xm0163_01.row.prog w) s.heap (isInstance (.ref e) (.type "BaseException")) true := I.type.andThen (looks_subIn X (by rfl))
  have ga : findIn (Mine.hd.heap_39 w.params) (.ref 45) "__getattribute__" = some (some (.builtin "BaseException.__getattribute__")) := by rfl
  have hb : Looks (model Challenge.rw_xm0163_01.row.prog w) s.heap (hookBefore (.ref 45)) none := looks_hook X (by rfl)
  have S := PySem.F.attr_Exception.ga
  have hk : builtinKind "BaseException.__getattribute__" = some .slot := by decide +kernel
  have hsplit : splitId "BaseException.__getattribute__" = some ("BaseException", "__getattribute__") := by decide +kernel
  refine wpAny_bind (wpAny_mkText (wpAny_holding (wpAny_bind (I.type _ _ _ _ (fun _ _ e => e) (wpAny_bind (looks_findIn X ga _ _ _ _ (fun _ _ e => e) ?_))))))
  dsimp only
  rw [show (onTheHeap (Value.ref 45) && Value.builtin "BaseException.__getattribute__" == Value.builtin "object.__getattribute__") = false from by decide +kernel, if_neg (by decide)]
  refine wpAny_bind (hb _ _ _ _ (fun _ _ e => e) (wpAny_bind (wpAny_attempt (wpAny_holding ?_))))
  unfold callGetattribute
  rw [show (expr && onTheHeap (Value.builtin "BaseException.__getattribute__")) = false from Bool.and_false _, if_neg (by decide)]
  unfold boundAndCalled
  rw [S.bind]
  refine wpAny_bind (wpAny_pure ?_)
  show wpAny _ _ (call (.builtin "BaseException.__getattribute__") [.ref e, .str name s.toks]) _ _ _
  refine wpAny_call ?_
  refine codeAny_call_builtin S.plain F.entry_bexc_ga ?_
  refine @check_slot (model Challenge.rw_xm0163_01.row.prog w) _ _ { s with toks := s.toks + 1 } "BaseException.__getattribute__" "BaseException" "__getattribute__" (.ref e) [.str name s.toks] [] _ hk hsplit sub (F.args_bexc_ga (.ref e) (.str name s.toks)) ?_
  have L1 := looks_find (M := model Challenge.rw_xm0163_01.row.prog w) X I hf
  unfold Builtin.«object.__getattribute__»
  refine wpAny_bind (wpAny_pure (wpAny_bind (wpAny_pure (wpAny_bind (I.type _ _ _ _ (fun _ _ e => e) (wpAny_bind (L1 _ _ _ _ (fun _ _ e => e) ?_)))))))
  refine wpAny_pure ?_
  show wpAny _ _ (handedOut v) _ _ _
  rw [handedOut_of hh]
  exact wpAny_pure h
theorem exc_spot {e dx : Addr} {oe : Obj} {vs : Array Value} {msg : Str} {tm ts n1 n2 : Tok} {sp : Int} {expr : Bool} (X : (Mine.hd.heap_39 w.params).In s.heap) (he : s.heap.get? e = some oe) (hc : oe.cls = .ref 45) (hD : oe.dict = some dx) (hd : oe.data = .fields vs)
    (hx : s.heap.get? dx = some (faultD w msg tm sp ts n1 n2)) (h : Q (.int sp ts) { s with toks := s.toks + 1 }) : wpAny (model Challenge.rw_xm0163_01.row.prog w) A (getAttr (.ref e) (Str.ofString "spot") expr) Q E s := by
  refine exc_get (od := faultD w msg tm sp ts n1 n2) X ⟨he, hc, ?_, ?_⟩ (by rfl) rfl h
  · unfold notCls; rw [hd]
  · rw [hD]; exact hx
end
end Mine

end

section
open PySem PySem.W PyProof.Rows PySem.Calls
set_option Elab.async false
namespace Mine
open LCg PySem.Spec
local macro_rules | `(tactic| walk_at "ite") => `(tactic| (k_here; first | (with_reducible refine ite_neg (by simp only [beq_iff_eq, decide_eq_true_eq]; omega) ?_) | (with_reducible refine ite_pos (by simp only [beq_iff_eq, decide_eq_true_eq]; omega) ?_)))

theorem Raise_exc {prog : Program} {w : World} {A : Around} {E : Value → Shared → Prop} {s : Shared} {env : Env} {x : PySem.Expr} {pos : Pos} {Q : Flow → Shared → Prop} (hh : A.handled = none)
    (h : wpAny (model prog w) A (eval x env) (fun v s₁ => Hold (∃ e t D, v = .ref e ∧ (Mine.hd.heap_39 w.params).In s₁.heap ∧ s₁.heap.get? e = some (excO t D) ∧ E (.ref e) s₁)) E s) :
    wpAny (model prog w) A (exec (.Raise (some x) none pos) env) Q E s := by
  rw [arm_exec_Raise]
  refine wpAny_bind (wpAny_standAt (raise_exc hh ?_))
  exact wpAny_bind (wpAny_mono h (fun v s₁ z => wpAny_bind (wpAny_standAt (wpAny_pure z))) fun _ _ z => z)
theorem pick2 {g h : Heap} {L : Addr} {a b c : Addr × Obj} {rest : List (Addr × Obj)} (N : News g L h (a :: b :: c :: rest)) : News g L h [a, c] := fun p hp => by
  rcases List.mem_cons.mp hp with rfl | hp
  · exact N _ (.head _)
  · rw [List.mem_singleton.mp hp]
    exact N _ (.tail _ (.tail _ (.head _)))
local macro_rules | `(tactic| walk_at "call ref cons nil") => `(tactic| (k_here; (with_reducible show wpAny _ _ (call (Value.ref 45) _) _ _ _); k_dflt (refine' exc_call ?k1 ?k2 ?k3 ?kN ?k4 rfl rfl ?kK ?kd ?_; (case k1 => k_asm); (case k2 => k_asm); (case k3 => k_asm); (case k4 => k_asm); (case kN => k_asm); (case kK => first | exact rfl | assumption); (case kd => ktr_room)); intro e t2 dx n1 n2 h' tk' F' N' kp ne nt; (try k_sweep)))
local macro_rules | `(tactic| walk_at "call ref") => `(tactic| (k_here; (with_reducible show wpAny _ _ (call (Value.ref 45) _) _ _ _); k_dflt (refine' exc_call ?k1 ?k2 ?k3 ?kN ?k4 rfl rfl ?kK ?kd ?_; (case k1 => k_asm); (case k2 => k_asm); (case k3 => k_asm); (case k4 => k_asm); (case kN => k_asm); (case kK => first | exact rfl | assumption); (case kd => ktr_room)); intro e t2 dx n1 n2 h' tk' F' N' kp ne nt; (try k_sweep)))
local macro_rules | `(tactic| walk_at "exec Raise some none") => `(tactic| (k_here; refine Raise_exc rfl ?_))
set_option maxRecDepth 100000 in
set_option maxHeartbeats 2000000 in
theorem sv_fault {w : World} {mean : ExcName → Option Value} {mg mb : Str → Option Value} {dp un : Nat} {gd : Option (List Code)} {cn : Str} {cs : Scope} {a : Addr} {ccd : Value} {cl : List (Str × Addr)} {outer : List Env} {A₀ : Around} {base h₀ : Heap} {L : Addr} {m : Str → Option Value} {s : Shared} {Q E : Value → Shared → Prop}
    (B : Below A₀ base outer h₀) (F : Fr h₀ L s.heap m) (X : (Mine.hd.heap_39 w.params).In h₀) (T : Top Mine.hd.view_39 (looseW Mine.hd.view_39 [Str.ofString "ChanError"]) mean mg mb h₀) (hk : cs.kind = .function)
    (hdp : dp + 8 < recursionLimit) (_hun : un + 64 < cLine)
    {dA tN tV : Addr} {t0 t1 : Tok} {nvs vvs : Array Value} {txv : Value} {nds vds : List PyData} {txd : PyData}
    (hdd : IsTup s.heap dA #[.str (Str.ofString "var") t0, .int 30 t1, .ref tN, txv, .ref tV]) (hn : IsTup s.heap tN nvs) (hv : IsTup s.heap tV vvs) (rn : ReadsAll s.heap nvs.toList nds []) (rv : ReadsAll s.heap vvs.toList vds []) (rt : Reads s.heap txv txd [])
    (n0 : 1 ≤ nvs.size) (n1 : nvs.size ≤ 8) (m1 : vvs.size ≤ 8)
    (hm : 2 ≤ vvs.size) (hne : vvs.size ≠ nvs.size)
    (ret : ∀ e t dx msg tm ts n1 n2 h' tk', RaisedD base s.heap (envX cn cs L a ccd cl :: outer) e (.ref 45) t (some dx) [(dx, faultD w msg tm 30 ts n1 n2)] h' → s.heap.UpToSlots h' → E (.ref e) { s with heap := h', toks := tk' }) :
    wpAny (model Challenge.rw_xm0163_01.row.prog w) (ktrTop dp un gd cn cs L a ccd cl outer) (call (.ref 59) [.ref dA]) Q E s := by
  revert X; k_fill; intro X
  refine wpAny_call ?_
  refine' enter0C B F X T rfl rfl hk ?k6 ?k7 ?k8 ?k9 ?kB ?kD ?_ ?c2 ?c3 ?c4
  case k6 => k_is
  case k7 => k_is
  case k8 => ktr_room
  case k9 => exact BindsTo.of_eq rfl
  case kB => exact rfl
  case kD => decide +kernel
  case c2 => exact rfl
  case c3 => exact rfl
  case c4 => exact rfl
  intro L' h' tk' cells' F' N' Y' B' X' T'
  k_cells Y'
  (try simp only [List.cons_append, List.nil_append] at N')
  clear F X T
  (try dsimp only)
  (try k_fold)
  w_top off
  k_steps
  rename News _ _ _ _ => N9
  rename Fr _ _ _ _ => F9
  have z0 := N9 _ (.head _)
  have z2 := N9 _ (.tail _ (.tail _ (.head _)))
  refine ⟨_, _, _, rfl, X'.keeps F9.keep, z0.1, ?_⟩
  refine leaveD rfl rfl B' F9 (pick2 N9) (fun p hp => ?_) fun h9 R9 U9 => ret _ _ _ _ _ _ _ _ _ _ R9 U9
  rw [List.mem_singleton.mp hp]
  intro q
  have q1 := z2.1
  dsimp only at q q1
  rw [q, z0.1] at q1
  cases q1

local macro_rules | `(tactic| walk_at "call type:tuple") => `(tactic| (k_here; (with_reducible show wpAny _ _ (call (Value.type _) [Value.ref _]) _ _ _); k_dflt (refine' tup_of ?k1 ?k2 ?k3 ?k4 ?_; (case k1 => k_asm); (case k2 => k_asm); (case k3 => is_list); (case k4 => omega); k_whole); intro D' h' F' N' l1; (try k_lt l1); (try k_sweep)))

section
variable {prog : Program} {w : World} {A₀ A : Around} {s : Shared} {base h₀ : Heap} {L : Addr} {m : Str → Option Value} {env : Env} {K : Frag} {p : Program} {loose : List Str} {mean : ExcName → Option Value} {mg mb : Str → Option Value}
  {R : Result → Shared → Prop} {name qual : Str} {params : Arguments} {body : List Stmt} {scope : Scope} {dV kV doc pm cdv ct oc : Value} {an od : Option Addr} {osl : Array (Option Value)} {f : Addr} {args : Args} {binds : List (Str × Value)}
/-- a def with a try is entered from the only frame below it -/
theorem enterS (B : Below A₀ base [] h₀) (F : Fr h₀ L s.heap m) (X₀ : K.In h₀) (T : Top p loose mean mg mb h₀) (hA : A.frames = some [env]) (hf : env.frame = some L) (hke : env.scope.kind = .function)
    (ho : K.lookup f = some ⟨oc, od, .func (fnOf name qual params body scope dV kV doc pm an cdv ct), osl⟩) (hcd : codeIn K cdv qual = true) (hroom : A.depth < recursionLimit)
    (hbind : BindsTo s (fnOf name qual params body scope dV kV doc pm an cdv ct) args binds) (hloc : ∀ y ∈ binds, scope.names.lookup y.1 = some .local)
    (h : ∀ L' h₁, Fr s.heap L' h₁ (fun y => binds.reverse.lookup y) → News s.heap L' h₁ [] → Below A base [env] s.heap → K.In s.heap → Top p loose mean mg mb s.heap → KtsDicts ([env].filterMap (·.frame)) s.heap →
      wpAny (model prog w) (A.deeper (envOf qual scope L' f cdv)) (execs body (envOf qual scope L' f cdv))
        (fun fl s' => Hold (R (.ok (.ret (match fl with | .ret v => v | _ => .none))) s'))
        (fun e s' => wpAny (model prog w) (A.deeper (envOf qual scope L' f cdv)) (leaving (envOf qual scope L' f cdv) e) (fun _ s'' => R (.error e) s'') (fun e' s'' => R (.error e') s'') s')
        { s with heap := h₁, toks := s.toks + binds.length })
    (hco : scope.isCoroutine = false) (hgen : scope.isGenerator = false) (hk : scope.kind = .function)
    (hcell : ∀ x ∈ scope.names, x.2 ≠ .cell) : codeAny (model prog w) A (.call (.ref f) args) R s := by
  obtain ⟨FG, BG, st, lv⟩ := groundX (R := R) (news := []) B F News.nil hA hf hke
  refine codeAny_call_def (fd := fnX name qual params body scope [] dV kV doc pm an cdv ct) (body := body) (binds := binds) hroom ((X₀.keeps F.keep) _ _ ho) rfl (T.nolimit.keeps F.keep) (codeRec_of (X₀.keeps F.keep) hcd) rfl hbind hcell hloc (fun h₁ hns hk₁ => ?_) hco hgen hk
  refine wpAny_mono (h s.heap.objs.size h₁ ⟨hns, hk₁, Nat.le_refl _⟩ News.nil BG (X₀.keeps F.keep) (T.keeps F.keep) fun b hb => ?_) (fun fl s' hl => hl) fun _ _ y => y
  rcases memE (outer := []) hf hb with rfl | r
  · obtain ⟨o, es, ep, ho, hd, _⟩ := F.ns
    exact ⟨o, es, ep, ho, hd⟩
  · simp at r
theorem fr_turn {h g h' : Heap} {L' : Addr} {m' : Str → Option Value} (hf : env.frame = some L) (F : Fr h₀ L h m) (KT : KtsTurn ([env].filterMap (·.frame)) h g) (F' : Fr g L' h' m') : Fr h₀ L h' m ∧ ∀ b o, b ≠ L → h.get? b = some o → h'.get? b = some o := by
  have k : ∀ b o, b ≠ L → h.get? b = some o → h'.get? b = some o := fun b o hb e => F'.keep _ _ (KT.other _ _ e fun hm => by
    rcases memE (outer := []) hf hm with r | r
    · exact hb r
    · simp at r)
  refine ⟨⟨?_, fun b o e => k b o (fun r => ?_) (F.keep b o e), F.above⟩, k⟩
  · obtain ⟨o, es, ep, ho, hd, hr⟩ := F.ns
    obtain ⟨sl, hs⟩ := KT.up ho
    exact ⟨_, es, ep, F'.keep _ _ hs, hd, hr⟩
  · rw [r, kts_self F] at e; cases e
theorem exc_spotF {A : Around} {E : Value → Shared → Prop} {Q : Value → Shared → Prop} {news : List (Addr × Obj)} {e dx : Addr} {oe : Obj} {vs : Array Value} {msg : Str} {tm ts n1 n2 : Tok} {sp : Int} {expr : Bool} (F : Fr h₀ L s.heap m) (X : (Mine.hd.heap_39 w.params).In h₀) (N : News h₀ L s.heap news)
    (m1 : (e, oe) ∈ news) (m2 : (dx, faultD w msg tm sp ts n1 n2) ∈ news) (hc : oe.cls = .ref 45) (hD : oe.dict = some dx) (hd : oe.data = .fields vs)
    (h : Q (.int sp ts) { s with toks := s.toks + 1 }) : wpAny (model Challenge.rw_xm0163_01.row.prog w) A (getAttr (.ref e) (Str.ofString "spot") expr) Q E s :=
  exc_spot (X.keeps F.keep) (N _ m1).1 hc hD hd (N _ m2).1 h
end
local macro_rules | `(tactic| walk_at "call ref") => `(tactic| (k_here; (with_reducible show wpAny _ _ (call (Value.ref 59) _) _ _ _); k_dflt (refine' sv_fault ?k1 ?k2 ?k3 ?k4 ?kK ?kd ?ku ?hdd ?hn ?hv ?rn ?rv ?rt ?n0 ?n1 ?m1 ?hm ?hne ?_; (case k1 => k_asm); (case k2 => k_asm); (case k3 => k_asm); (case k4 => k_asm); (case kK => first | exact rfl | assumption); (case kd => ktr_room); (case ku => ktr_units); (case hdd => exact News.isTup (by k_asm) (by k_mem)); (case hn => exact News.isTup (by k_asm) (by k_mem)); (case hv => exact News.isTup (by k_asm) (by k_mem)); (case rn => exact ReadsAll.keeps (Fr.keep (by k_asm)) (by assumption)); (case rv => exact ReadsAll.keeps (Fr.keep (by k_asm)) (by assumption)); (case rt => exact Reads.keeps (Fr.keep (by k_asm)) (by assumption)); (case n0 => assumption); (case n1 => assumption); (case m1 => assumption); (case hm => assumption); (case hne => assumption)); intro e9 t9 dx9 msg9 tm9 ts9 n19 n29 h9 tk9 R9 U9; refine hold ?_))
local macro_rules | `(tactic| walk_at "getAttr ref") => `(tactic| (k_here; k_dflt (refine' exc_spotF ?k1 ?k2 ?k3 ?m1 ?m2 ?c ?D ?d ?_; (case k1 => k_asm); (case k2 => k_asm); (case k3 => k_asm); (case m1 => exact List.Mem.head _); (case m2 => exact List.Mem.tail _ (List.Mem.head _)); (case c => assumption); (case D => assumption); (case d => assumption))))
set_option maxRecDepth 100000 in
set_option maxHeartbeats 2000000 in
theorem told_fault {w : World} {mean : ExcName → Option Value} {mg mb : Str → Option Value} {dp un : Nat} {gd : Option (List Code)} {cn : Str} {cs : Scope} {a : Addr} {ccd : Value} {cl : List (Str × Addr)} {A₀ : Around} {h₀ : Heap} {L : Addr} {m : Str → Option Value} {s : Shared} {Q E : Value → Shared → Prop}
    (B : Below A₀ h₀ [] h₀) (F : Fr h₀ L s.heap m) (X : (Mine.hd.heap_39 w.params).In h₀) (T : Top Mine.hd.view_39 (looseW Mine.hd.view_39 [Str.ofString "ChanError"]) mean mg mb h₀) (hk : cs.kind = .function)
    (hdp : dp + 20 < recursionLimit) (_hun : un + 160 < cLine)
    {ln lv : Addr} {nvs vvs : Array Value} {txv : Value} {nds vds : List PyData} {txd : PyData}
    (hn : s.heap.IsList ln nvs) (hv : s.heap.IsList lv vvs) (rn : ReadsAll s.heap nvs.toList nds []) (rv : ReadsAll s.heap vvs.toList vds []) (rt : Reads s.heap txv txd [])
    (n0 : 1 ≤ nvs.size) (n1 : nvs.size ≤ 8) (m1 : vvs.size ≤ 8)
    (hm : 2 ≤ vvs.size) (hne : vvs.size ≠ nvs.size)
    (ret : ∀ tk h' tk', Fr h₀ L h' m → (∀ b o, b ≠ L → s.heap.get? b = some o → h'.get? b = some o) → Q (.str (Str.ofString "fault") tk) { s with heap := h', toks := tk' }) :
    wpAny (model Challenge.rw_xm0163_01.row.prog w) (ktrTop dp un gd cn cs L a ccd cl []) (call (.ref 99) [.ref ln, txv, .ref lv]) Q E s := by
  revert X; k_fill; intro X
  refine wpAny_call ?_
  refine' enterS B F X T rfl rfl hk ?k6 ?k7 ?k8 ?k9 ?kB ?_ ?c2 ?c3 ?c4 ?c5
  case k6 => k_is
  case k7 => k_is
  case k8 => ktr_room
  case k9 => exact BindsTo.of_eq rfl
  case kB => exact locs rfl
  case c2 => exact rfl
  case c3 => exact rfl
  case c4 => exact rfl
  case c5 => decide
  intro L' h' F' N' B' X' T' D'
  have XT : Hold (_ ∧ _) := And.intro X T
  have FH : Hold (Fr h₀ L s.heap m) := F
  clear F X T
  (try dsimp only)
  (try k_fold)
  w_top off
  k_steps
  have XT2 := XT
  obtain ⟨X0, T0⟩ := XT2
  rename RaisedD _ _ _ _ _ _ _ _ _ => R9
  rename Heap.UpToSlots _ _ => U9
  rename Fr s.heap _ _ _ => F9
  unfold Hold
  refine caughtD R9 F9 B' U9 X0 T0 D' KtsTurn.refl (by k_is) (by kts_isx) ?_
  rename News s.heap _ _ _ => N9
  clear R9 U9 F9 N9 B' X' T' D' X0 T0
  intro h8 g8 oe tk8 hoc hoD hod KT F8 N8 B8 X8 T8 D8
  obtain ⟨vs8, hod⟩ := hod
  k_steps
  rename Fr g8 _ _ _ => F7
  obtain ⟨f1, f2⟩ := fr_turn rfl FH KT F7
  exact ret _ _ _ f1 f2

end Mine
end

section
open PySem PySem.W PyProof.Rows PySem.Calls
set_option Elab.async false
namespace Mine
open LCg PySem.Spec

section
variable {w : World} {mean : ExcName → Option Value} {mg mb : Str → Option Value} {dp un : Nat} {gd : Option (List Code)} {cn : Str} {cs : Scope} {a : Addr} {ccd : Value} {cl : List (Str × Addr)} {outer : List Env} {A₀ : Around} {base h₀ : Heap} {L : Addr} {m : Str → Option Value} {s : Shared} {Q E : Value → Shared → Prop} {news : List (Addr × Obj)}
theorem one_at (B : Below A₀ base outer h₀) (F : Fr h₀ L s.heap m) (X : (Mine.hd.heap_39 w.params).In h₀) (T : Top Mine.hd.view_39 (looseW Mine.hd.view_39 [Str.ofString "ChanError"]) mean mg mb h₀) (N : News h₀ L s.heap news) (hk : cs.kind = .function)
    {l th : Addr} {x y : Int} {tx ty : Tok} {n : Nat} {its : Array Value} {f : Obj → List (Addr × Obj)} (U : ∀ o', Upd l (W.listOf #[.int x tx, .int y ty] n) o' news (f o'))
    (hdp : dp + 4 < recursionLimit) (hun : un + 32 < cLine)
    (h0 : ∀ x t, its[0]? ≠ some (.int x t)) (hth : s.heap.IsList th its) (hs0 : 0 < its.size) (hs1 : its.size ≤ 100)
    (ret : ∀ v x' tx' y' ty' n' h' tk', v ∈ its.toList → Fr h₀ L h' m → News h₀ L h' (f (W.listOf #[.int x' tx', .int y' ty'] n')) → (∀ b o, b ≠ l → s.heap.get? b = some o → h'.get? b = some o) →
      Q v { s with heap := h', toks := tk' }) :
    wpAny (model Challenge.rw_xm0163_01.row.prog w) (ktrTop dp un gd cn cs L a ccd cl outer) (call (.ref 87) [.ref l, .ref th]) Q E s := by
  have N1 := news_one N (upd_mem (U default))
  refine one_spec B F X T hk hdp hun N1 hth (fun q => ?_) hs0 hs1 fun v x' tx' y' ty' n' h' tk' hv N2 F2 kp => ret v x' tx' y' ty' n' h' tk' ?_ F2 (upd_pair (U _) N N2 kp) kp
  · obtain ⟨o, ho, hc, n', hd⟩ := hth
    have := (N1 _ (.head _)).1
    dsimp only at this
    rw [q, this] at ho
    cases ho
    cases hd
    exact h0 _ _ rfl
  · obtain ⟨i, hi, e⟩ := hv
    rw [Array.mem_toList_iff]
    exact Array.mem_of_getElem? e
end
def tyD1 : PyData := .tuple [.str (Str.ofString "name"), .int 5, .none, .str (Str.ofString "int")]
def tyD2 : PyData := .tuple [.str (Str.ofString "slice"), .int 5, .tuple [.str (Str.ofString "name"), .int 7, .none, .str (Str.ofString "T")]]
end Mine

end

section
open PySem PySem.W PyProof.Rows PySem.Calls
set_option Elab.async false
namespace Mine
open LCg PySem.Spec
set_option maxRecDepth 100000 in
set_option maxHeartbeats 2000000 in
theorem pool_spec {w : World} {mean : ExcName → Option Value} {mg mb : Str → Option Value} {dp un : Nat} {gd : Option (List Code)} {cn : Str} {cs : Scope} {a : Addr} {ccd : Value} {cl : List (Str × Addr)} {outer : List Env} {A₀ : Around} {base h₀ : Heap} {L : Addr} {m : Str → Option Value} {s : Shared} {Q E : Value → Shared → Prop}
    (B : Below A₀ base outer h₀) (F : Fr h₀ L s.heap m) (X : (Mine.hd.heap_39 w.params).In h₀) (T : Top Mine.hd.view_39 (looseW Mine.hd.view_39 [Str.ofString "ChanError"]) mean mg mb h₀) (hk : cs.kind = .function)
    (hdp : dp + 4 < recursionLimit) (_hun : un + 32 < cLine)
    {ls : Addr} {vals : List Value} {zs9 : List Int} (hL : s.heap.IsList ls vals.toArray) (hI : IntsAre vals zs9) (hn : zs9.length ≤ 63)
    (ret : ∀ l x tx y ty n h' tk', Fr h₀ L h' m → (∀ b o, s.heap.get? b = some o → h'.get? b = some o) → h'.get? l = some (W.listOf #[.int x tx, .int y ty] n) → s.heap.get? l = none → Q (.ref l) { s with heap := h', toks := tk' }) :
    wpAny (model Challenge.rw_xm0163_01.row.prog w) (ktrTop dp un gd cn cs L a ccd cl outer) (call (.ref 73) [.ref ls]) Q E s := by
  revert X; k_fill; intro X
  refine wpAny_call ?_
  refine' enter0 B F X T rfl rfl hk ?k6 ?k7 ?k8 ?k9 ?kB ?_ ?c2 ?c3 ?c4 ?c5
  case k6 => k_is
  case k7 => k_is
  case k8 => ktr_room
  case k9 => exact BindsTo.of_eq rfl
  case kB => exact locs rfl
  case c2 => exact rfl
  case c3 => exact rfl
  case c4 => exact rfl
  case c5 => decide
  intro L' h' F' N' B' X' T'
  clear F X T
  (try dsimp only)
  (try k_fold)
  w_top off
  k_steps
  all_goals (
    rename Fr _ _ _ _ => F9
    rename News _ _ _ _ => N9
    have z9 := N9 _ (.head _)
    exact (show LeaveK _ _ _ _ _ _ _ from ⟨_, _, _, F9, N9, fun kF _ => ret _ _ _ _ _ _ _ _ kF F9.keep z9.1 z9.2.2⟩))
end Mine

end

section
open PySem PySem.W PyProof.Rows PySem.Calls
set_option Elab.async false
namespace Mine
open LCg PySem.Spec
theorem news_cons {h₀ h : Heap} {L b : Addr} {o : Obj} {news : List (Addr × Obj)} (z : h.get? b = some o ∧ b ≠ L ∧ h₀.get? b = none) (N : News h₀ L h news) : News h₀ L h ((b, o) :: news) := fun p hp => by
  rcases List.mem_cons.mp hp with rfl | hp
  · exact z
  · exact N p hp
theorem ne_of_objs {h : Heap} {b l : Addr} {o o' : Obj} (z : h.get? b = some o) (zl : h.get? l = some o') (hc : o.cls ≠ o'.cls) : @Ne Nat b l := fun q => by
  rw [show b = l from q, zl] at z; cases z; exact hc rfl
local macro_rules | `(tactic| walk_at "call ref") => `(tactic| (k_here; (with_reducible show wpAny _ _ (call (Value.ref 87) _) _ _ _); k_dflt (refine' one_at ?k1 ?k2 ?k3 ?k4 ?k5 ?kK ?kU ?kd ?ku ?h0 ?hth ?s0 ?s1 ?_; (case k1 => k_asm); (case k2 => k_asm); (case k3 => k_asm); (case k4 => k_asm); (case k5 => k_asm); (case kK => first | exact rfl | assumption); (case kU => (intro _; k_upd)); (case hth => is_list); (case h0 => (intro _ _ hq; simp at hq)); (case s0 => first | decide | (simp; done) | omega); (case s1 => first | decide | (simp; done) | omega); (case kd => ktr_room); (case ku => ktr_units)); intro v x' tx' y' ty' n' h' tk' hv F' N' kp; (try dsimp only at N'); (try k_sweep)))
set_option maxRecDepth 100000 in
set_option maxHeartbeats 2000000 in
theorem typex3 {w : World} {mean : ExcName → Option Value} {mg mb : Str → Option Value} {dp un : Nat} {gd : Option (List Code)} {cn : Str} {cs : Scope} {a : Addr} {ccd : Value} {cl : List (Str × Addr)} {outer : List Env} {A₀ : Around} {base h₀ : Heap} {L : Addr} {m : Str → Option Value} {s : Shared} {Q E : Value → Shared → Prop}
    (B : Below A₀ base outer h₀) (F : Fr h₀ L s.heap m) (X : (Mine.hd.heap_39 w.params).In h₀) (T : Top Mine.hd.view_39 (looseW Mine.hd.view_39 [Str.ofString "ChanError"]) mean mg mb h₀) (hk : cs.kind = .function)
    (hdp : dp + 10 < recursionLimit) (_hun : un + 80 < cLine)
    {l : Addr} {x y : Int} {tx ty : Tok} {n : Nat} {news : List (Addr × Obj)} {f : Obj → List (Addr × Obj)} (N : News h₀ L s.heap news) (U : ∀ o', Upd l (W.listOf #[.int x tx, .int y ty] n) o' news (f o'))
    (ret0 : ∀ x' tx' y' ty' n' h' tk', Fr h₀ L h' m → News h₀ L h' (f (W.listOf #[.int x' tx', .int y' ty'] n')) → Q .none { s with heap := h', toks := tk' })
    (ret1 : ∀ D a1 a2 a3 x' tx' y' ty' n' h' tk', Fr h₀ L h' m → News h₀ L h' ((D, tupO [.str (Str.ofString "name") a1, .int 5 a2, .none, .str (Str.ofString "int") a3]) :: f (W.listOf #[.int x' tx', .int y' ty'] n')) → (@Ne Nat D l) → Q (.ref D) { s with heap := h', toks := tk' })
    (ret : ∀ D D1 a1 a2 a3 a4 a5 x' tx' y' ty' n' h' tk', Fr h₀ L h' m → News h₀ L h' ((D, tupO [.str (Str.ofString "slice") a1, .int 5 a2, .ref D1]) :: (D1, tupO [.str (Str.ofString "name") a3, .int 7 a4, .none, .str (Str.ofString "T") a5]) :: f (W.listOf #[.int x' tx', .int y' ty'] n')) → (@Ne Nat D l) → (@Ne Nat D1 l) → Q (.ref D) { s with heap := h', toks := tk' }) :
    wpAny (model Challenge.rw_xm0163_01.row.prog w) (ktrTop dp un gd cn cs L a ccd cl outer) (call (.ref 106) [.ref l]) Q E s := by
  revert X; k_fill; intro X
  refine wpAny_call ?_
  have N1 := news_one N (upd_mem (U default))
  refine' code_defG B F X N1 T rfl rfl hk ?k6 ?k7 ?k8 ?k9 ?kB ?_ ?c2 ?c3 ?c4 ?c5
  case k6 => k_is
  case k7 => k_is
  case k8 => ktr_room
  case k9 => exact BindsTo.of_eq rfl
  case kB => exact locs rfl
  case c2 => exact rfl
  case c3 => exact rfl
  case c4 => exact rfl
  case c5 => decide
  intro g' L' h' FG' F' N' B' X' T' kG'
  (try dsimp only)
  (try k_fold)
  w_top off
  k_steps
  rename Fr h₀ _ _ _ => F9
  rename News h₀ _ _ _ => N9
  rename Fr g' _ _ _ => FG9
  rename _ ∈ Array.toList _ => hv
  have kp9 : ∀ b o, b ≠ l → s.heap.get? b = some o → _ := fun b o hb e => FG9.keep b o (kG' b o e (by simpa using hb))
  have N2 := news_one N9 (.tail _ (.tail _ (.tail _ (.tail _ (.head _)))))
  have N4 := upd_pair (U _) N N2 kp9
  have z1 := N9 _ (.tail _ (.head _))
  have z2 := N9 _ (.tail _ (.tail _ (.head _)))
  have z3 := N9 _ (.tail _ (.tail _ (.tail _ (.head _))))
  have zl := (N2 _ (.head _)).1
  dsimp only at z1 z2 z3 zl
  have e1 := ne_of_objs z1.1 zl (show Value.type "tuple" ≠ Value.type "list" by decide)
  have e2 := ne_of_objs z2.1 zl (show Value.type "tuple" ≠ Value.type "list" by decide)
  have e3 := ne_of_objs z3.1 zl (show Value.type "tuple" ≠ Value.type "list" by decide)
  replace hv : _ ∈ [_, _, _] := hv
  simp only [List.mem_cons, List.not_mem_nil, or_false] at hv
  rcases hv with rfl | rfl | rfl
  · exact ret0 _ _ _ _ _ _ _ F9 N4
  · exact ret1 _ _ _ _ _ _ _ _ _ _ _ F9 (news_cons z3 N4) e3
  · exact ret _ _ _ _ _ _ _ _ _ _ _ _ _ _ F9 (news_cons z1 (news_cons z2 N4)) e1 e2
end Mine

end

section
open PySem PySem.W PyProof.Rows PySem.Calls
set_option Elab.async false
namespace Mine
section
variable {prog : Program} {w : World} {A : Around} {E : Value → Shared → Prop} {s : Shared} {h₀ : Heap} {L : Addr} {m : Str → Option Value} {news : List (Addr × Obj)}
theorem adjust_run (a b n : Nat) (ha : a ≤ b) (hb : b ≤ n) : Builtin.Slice.sliceAdjust (some (a : Int)) (some (b : Int)) 1 (n : Int) = ((a : Int), (b : Int)) := by
  unfold Builtin.Slice.sliceAdjust
  have h1 : ¬ ((1 : Int) < 0) := by omega
  have h2 : ¬ ((a : Int) < 0) := by omega
  have h3 : ¬ ((b : Int) < 0) := by omega
  simp only [h1, h2, h3, if_false]
  rw [show min (a : Int) n = a by omega, show min (b : Int) n = b by omega]
theorem applied_run {sl : Addr} {a b n : Nat} {u u' : Tok} {Q : Int × Int × Nat → Shared → Prop} (hs : s.heap.IsSliceOf sl (.int a u) (.int b u') .none) (ha : a ≤ b) (hb : b ≤ n) (h : Q ((a : Int), 1, b - a) s) :
    wpAny (model prog w) A (Builtin.Slice.sliceApplied (.ref sl) (pure (n : Int))) Q E s := by
  obtain ⟨os, hos, hcs, hds⟩ := id hs
  unfold Builtin.Slice.sliceApplied Builtin.Slice.sliceFields
  refine wpAny_bind (wpAny_bind (wpAny_field hos hds (x := .int a u) rfl (wpAny_bind (wpAny_field hos hds (x := .int b u') rfl (wpAny_bind (wpAny_field hos hds (x := .none) rfl (wpAny_pure ?_)))))))
  refine wpAny_bind (slicePart_none ?_)
  show wpAny _ _ (if ((1 : Int) == 0) = true then _ else _) _ _ s
  rw [if_neg (by decide)]
  refine wpAny_bind (slicePart_int (wpAny_bind (slicePart_int (wpAny_bind (wpAny_pure ?_)))))
  show wpAny _ _ (match Builtin.Slice.sliceAdjust (some (a : Int)) (some (b : Int)) 1 (n : Int) with | (lo, hi) => pure (lo, (1 : Int), Builtin.Slice.slicePlaces lo hi 1)) _ _ s
  rw [adjust_run a b n ha hb]
  show wpAny _ _ (pure ((a : Int), (1 : Int), Builtin.Slice.slicePlaces (a : Int) (b : Int) 1)) _ _ s
  rw [places_from a b ha]
  exact wpAny_pure h
theorem pick_part (xs : Array Value) (a k : Nat) : ((List.range k).filterMap fun (k : Nat) => xs[((a : Int) + (k : Int) * 1).toNat]?).toArray = ((xs.toList.drop a).take k).toArray := by
  have e : (fun (k : Nat) => xs[((a : Int) + (k : Int) * 1).toNat]?) = fun k => xs[a + k]? := by
    funext k
    rw [show ((a : Int) + (k : Int) * 1).toNat = a + k by omega]
  rw [e]
  have := pick_run xs a k
  rw [List.filterMap_map] at this
  exact congrArg List.toArray this
theorem getItem_run {t sl : Addr} {items : Array Value} {a b : Nat} {u u' : Tok} {Q : Value → Shared → Prop} (ht : IsTup s.heap t items) (hs : s.heap.IsSliceOf sl (.int a u) (.int b u') .none) (h1 : 1 ≤ a) (ha : a ≤ b) (hb : b ≤ items.size)
    (h : Q (.ref s.heap.objs.size) { s with heap := s.heap.push { cls := .type "tuple", data := .seq ((items.toList.drop a).take (b - a)).toArray } })
    (hsz : items.size ≤ sizeLine) : wpAny (model prog w) A (getItem (.ref t) (.ref sl)) Q E s := by
  have hdrop : sizeOk (.seq ((items.toList.drop a).take (b - a)).toArray) := by
    show ((items.toList.drop a).take (b - a)).toArray.size ≤ sizeLine
    rw [List.size_toArray, List.length_take, List.length_drop, Array.length_toList]
    omega
  obtain ⟨os, hos, hcs, hds⟩ := id hs
  have hTs : s.TypeIs (.ref sl) "slice" := ⟨os, hos, hcs⟩
  unfold getItem
  try with_reducible refine wpAny_holding ?_
  first | refine wpAny_bind (wpAny_pure ?_) | skip
  refine wpAny_bind (wpAny_sequenceKey ht.typeIs (by decide) ?_)
  refine wpAny_bind (wpAny_callSpecial?_slot (name := Str.ofString "__getitem__") ht.typeIs slot_tuple_getitem
    (wpAny_call_entry slot_tuple_getitem ht.typeIs entry_tuple_getitem ?_ (args_tuple_getitem _ _)))
  show wpAny _ _ (Builtin.Tuple.tupleItemsOf (.ref t) >>= _) _ _ s
  refine wpAny_bind (tupleItemsOf_ ht ?_)
  refine wpAny_bind (wpAny_typeOf hTs ?_)
  rw [if_pos (by decide)]
  refine wpAny_bind (applied_run hs ha hb ?_)
  have hno : ¬ (((a : Int) == 0 && (1 : Int) == 1 && (b - a) == items.size) = true) := by
    have : ((a : Int) == 0) = false := by rw [beq_eq_false_iff_ne]; omega
    rw [this]; simp
  show wpAny _ _ (if ((a : Int) == 0 && (1 : Int) == 1 && (b - a) == items.size) = true then _ else _) _ _ s
  rw [if_neg hno, pick_part items a (b - a)]
  first
    | exact wpAny_bind (m := Builtin.Tuple.tupleExact _) (wpAny_newObj_type (wpAny_pure ⟨_, rfl, wpAny_pure h⟩) hdrop)
    | exact wpAny_bind (m := Builtin.Tuple.tupleExact _) (wpAny_newObj_type (wpAny_bind (wpAny_pure (wpAny_pure ⟨_, rfl, wpAny_pure h⟩))) hdrop)
    | exact wpAny_bind (wpAny_bind (m := Builtin.Tuple.tupleExact _) (wpAny_newObj_type (wpAny_pure (wpAny_pure ⟨_, rfl, wpAny_pure h⟩)) hdrop))
    | exact wpAny_bind (wpAny_bind (m := Builtin.Tuple.tupleExact _) (wpAny_newObj_type (wpAny_pure ⟨_, rfl, wpAny_pure h⟩) hdrop))
theorem tup_run {value slice : PySem.Expr} {t : Addr} {items : Array Value} {a b : Nat} {u u' : Tok} {zs : List Value} {x y : Int} {Q : Value → Shared → Prop}
    (F : Fr h₀ L s.heap m) (N : News h₀ L s.heap news) (ht : IsTup s.heap t items) (ex : x = (a : Int)) (ey : y = (b : Int)) (h1 : 1 ≤ a) (ha : a ≤ b) (hb : b ≤ items.size) (e : (items.toList.drop a).take (b - a) = zs)
    (h : ∀ D h', Fr h₀ L h' m → News h₀ L h' ((D, ({ cls := .type "tuple", data := .seq zs.toArray } : Obj)) :: news) → (∀ p ∈ news, p.1 < D) → Q (.ref D) { s with heap := h' })
    (hs : subscripted slice false (.ref t) (.ref s.heap.objs.size) = operate [.ref s.heap.objs.size, .ref t] (getItem (.ref t) (.ref s.heap.objs.size)))
    (hg : ∀ r, letTemporaryGo value (.ref t) r = pure ())
    (hsz : items.size ≤ sizeLine) :
    wpAny (model prog w) A (subscriptTail value slice (.ref t) (.ref s.heap.objs.size)) Q E { s with heap := s.heap.push { cls := .type "slice", data := .fields #[.int x u, .int y u', .none] } } := by
  subst ex ey e
  have ht' : IsTup (s.heap.push { cls := .type "slice", data := .fields #[.int a u, .int b u', .none] }) t items := ht.keeps fun _ _ e => Heap.get?_push_of_some _ e
  refine subscriptTail_ops (s := { s with heap := s.heap.push { cls := .type "slice", data := .fields #[.int a u, .int b u', .none] } }) ht'.typeIs slot_tuple_getitem.lookup
    (getItem_run ht' (Heap.IsSliceOf.new ..) h1 ha hb ?_ hsz) hs hg
  have N1 := News.push (F.push { cls := .type "slice", data := .fields #[.int a u, .int b u', .none] }) (N.grown fun _ _ e => Heap.get?_push_of_some _ e) { cls := .type "tuple", data := .seq ((items.toList.drop a).take (b - a)).toArray }
  rw [Heap.size_push] at N1
  show Q (.ref (s.heap.push _).objs.size) _
  rw [Heap.size_push]
  exact h _ _ ((F.push _).push _) N1 fun p hp => Nat.lt_succ_of_lt (Heap.lt_size (N p hp).1)
theorem tup_slice {value slice : PySem.Expr} {t : Addr} {items : Array Value} {u u' : Tok} {zs : List Value} {x y : Int} {Q : Value → Shared → Prop}
    (F : Fr h₀ L s.heap m) (N : News h₀ L s.heap news) (ht : IsTup s.heap t items) (h1 : 1 ≤ x) (ha : x ≤ y) (hb : y ≤ (items.size : Int)) (e : (items.toList.drop x.toNat).take (y.toNat - x.toNat) = zs)
    (h : ∀ D h', Fr h₀ L h' m → News h₀ L h' ((D, ({ cls := .type "tuple", data := .seq zs.toArray } : Obj)) :: news) → (∀ p ∈ news, p.1 < D) → Q (.ref D) { s with heap := h' })
    (hs : subscripted slice false (.ref t) (.ref s.heap.objs.size) = operate [.ref s.heap.objs.size, .ref t] (getItem (.ref t) (.ref s.heap.objs.size)))
    (hg : ∀ r, letTemporaryGo value (.ref t) r = pure ())
    (hsz : items.size ≤ sizeLine) :
    wpAny (model prog w) A (subscriptTail value slice (.ref t) (.ref s.heap.objs.size)) Q E { s with heap := s.heap.push { cls := .type "slice", data := .fields #[.int x u, .int y u', .none] } } :=
  tup_run F N ht (a := x.toNat) (b := y.toNat) (by omega) (by omega) (by omega) (by omega) (by omega) e h hs hg hsz
end
end Mine

end

section
open PySem PySem.W PyProof.Rows PySem.Calls
set_option Elab.async false
namespace Mine
open LCg PySem.Spec
def TY (l : Addr) (v : Value) (ex : List (Addr × Obj)) : Prop := (v = .none ∧ ex = []) ∨
  (∃ (D : Addr) (a1 a2 a3 : Tok), v = .ref D ∧ ex = [(D, tupO [.str (Str.ofString "name") a1, .int 5 a2, .none, .str (Str.ofString "int") a3])] ∧ @Ne Nat D l) ∨
  (∃ (D D1 : Addr) (a1 a2 a3 a4 a5 : Tok), v = .ref D ∧ ex = [(D, tupO [.str (Str.ofString "slice") a1, .int 5 a2, .ref D1]), (D1, tupO [.str (Str.ofString "name") a3, .int 7 a4, .none, .str (Str.ofString "T") a5])] ∧ @Ne Nat D l ∧ @Ne Nat D1 l)
set_option maxRecDepth 100000 in
set_option maxHeartbeats 2000000 in
theorem typex_any {w : World} {mean : ExcName → Option Value} {mg mb : Str → Option Value} {dp un : Nat} {gd : Option (List Code)} {cn : Str} {cs : Scope} {a : Addr} {ccd : Value} {cl : List (Str × Addr)} {outer : List Env} {A₀ : Around} {base h₀ : Heap} {L : Addr} {m : Str → Option Value} {s : Shared} {Q E : Value → Shared → Prop}
    (B : Below A₀ base outer h₀) (F : Fr h₀ L s.heap m) (X : (Mine.hd.heap_39 w.params).In h₀) (T : Top Mine.hd.view_39 (looseW Mine.hd.view_39 [Str.ofString "ChanError"]) mean mg mb h₀) (hk : cs.kind = .function)
    (hdp : dp + 10 < recursionLimit) (_hun : un + 80 < cLine)
    {l : Addr} {x y : Int} {tx ty : Tok} {n : Nat} {news : List (Addr × Obj)} {f : Obj → List (Addr × Obj)} (N : News h₀ L s.heap news) (U : ∀ o', Upd l (W.listOf #[.int x tx, .int y ty] n) o' news (f o'))
    (ret : ∀ v ex x' tx' y' ty' n' h' tk', Fr h₀ L h' m → News h₀ L h' (ex ++ f (W.listOf #[.int x' tx', .int y' ty'] n')) → TY l v ex → Q v { s with heap := h', toks := tk' }) :
    wpAny (model Challenge.rw_xm0163_01.row.prog w) (ktrTop dp un gd cn cs L a ccd cl outer) (call (.ref 106) [.ref l]) Q E s := by
  exact typex3 B F X T hk hdp _hun N U
    (fun _ _ _ _ _ _ _ F' N' => ret _ [] _ _ _ _ _ _ _ F' N' (.inl ⟨rfl, rfl⟩))
    (fun D a1 a2 a3 _ _ _ _ _ _ _ F' N' e1 => ret _ [_] _ _ _ _ _ _ _ F' N' (.inr (.inl ⟨D, a1, a2, a3, rfl, rfl, e1⟩)))
    (fun D D1 a1 a2 a3 a4 a5 _ _ _ _ _ _ _ F' N' e1 e2 => ret _ [_, _] _ _ _ _ _ _ _ F' N' (.inr (.inr ⟨D, D1, a1, a2, a3, a4, a5, rfl, rfl, e1, e2⟩)))
local macro_rules | `(tactic| walk_at "call ref") => `(tactic| (k_here; (with_reducible show wpAny _ _ (call (Value.ref 80) _) _ _ _); k_dflt (refine' take_at ?k1 ?k2 ?k3 ?k4 ?k5 ?kK ?kU ?t0 ?t1 ?kd ?ku ?_; (case k1 => k_asm); (case k2 => k_asm); (case k3 => k_asm); (case k4 => k_asm); (case k5 => k_asm); (case kK => first | exact rfl | assumption); (case kU => (intro _; k_upd)); (case t0 => first | decide | omega | assumption); (case t1 => first | decide | omega | assumption); (case kd => ktr_room); (case ku => ktr_units)); intro k t x' tx' y' ty' n' h' tk' hk0 hk1 F' N' kp; (try dsimp only at N'); (try k_sweep)))
local macro_rules | `(tactic| walk_at "call ref") => `(tactic| (k_here; (with_reducible show wpAny _ _ (call (Value.ref 87) _) _ _ _); k_dflt (refine' one_at ?k1 ?k2 ?k3 ?k4 ?k5 ?kK ?kU ?kd ?ku ?h0 ?hth ?s0 ?s1 ?_; (case k1 => k_asm); (case k2 => k_asm); (case k3 => k_asm); (case k4 => k_asm); (case k5 => k_asm); (case kK => first | exact rfl | assumption); (case kU => (intro _; k_upd)); (case hth => is_list); (case h0 => (intro _ _ hq; simp at hq)); (case s0 => first | decide | (simp; done) | omega); (case s1 => first | decide | (simp; done) | omega); (case kd => ktr_room); (case ku => ktr_units)); intro v x' tx' y' ty' n' h' tk' hv F' N' kp; (try dsimp only at N'); simp only [List.mem_cons, List.not_mem_nil, or_false] at hv; (first | (rcases hv with hv | hv | hv | hv) | (rcases hv with hv | hv | hv) | (rcases hv with hv | hv)); (all_goals (subst hv; (try k_sweep)))))
local macro_rules | `(tactic| walk_at "call ref") => `(tactic| (k_here; (with_reducible show wpAny _ _ (call (Value.ref 106) _) _ _ _); k_dflt (refine' typex_any ?k1 ?k2 ?k3 ?k4 ?kK ?kd ?ku ?k5 ?kU ?_; (case k1 => k_asm); (case k2 => k_asm); (case k3 => k_asm); (case k4 => k_asm); (case k5 => k_asm); (case kK => first | exact rfl | assumption); (case kU => (intro _; k_upd)); (case kd => ktr_room); (case ku => ktr_units)); intro v ex x' tx' y' ty' n' h' tk' F' N' hty; rcases hty with ⟨q1, q2⟩ | ⟨D, a1, a2, a3, q1, q2, e1⟩ | ⟨D, D1, a1, a2, a3, a4, a5, q1, q2, e1, e2⟩; (all_goals (subst q1; subst q2; (try simp only [List.cons_append, List.nil_append] at N'); (try dsimp only at N'); (try k_sweep)))))
local macro_rules | `(tactic| walk_at "call ref") => `(tactic| (k_here; (with_reducible show wpAny _ _ (call (Value.ref 66) _) _ _ _); k_dflt (refine wpAny_call ?_; refine' code_defG ?k1 ?k2 ?k3 ?k4 ?k5 rfl rfl ?kK ?k6 ?k7 ?k8 ?k9 ?kB ?_ ?c2 ?c3 ?c4 ?c5; (case k1 => k_asm); (case k2 => k_asm); (case k3 => k_asm); (case k4 => k_asm); (case k5 => k_asm); (case kK => first | exact rfl | assumption); (case k6 => k_is); (case k7 => k_is); (case k8 => ktr_room); (case k9 => exact BindsTo.of_eq rfl); (case kB => exact locs rfl); (case c2 => exact rfl); (case c3 => exact rfl); (case c4 => exact rfl); (case c5 => decide)); intro g' L' h' FG' F' N' B' X' T' kG'; (try dsimp only); (try k_lift B'); (try k_fold)))
local macro_rules | `(tactic| walk_at "subscriptTail Name Slice ref ref") => `(tactic| (k_here; (with_reducible show wpAny _ _ (subscriptTail _ (PySem.Expr.Slice _ _ none _) (Value.ref _) (Value.ref _)) _ _ _); k_dflt (refine' tup_slice ?F ?N ?t ?h1 ?ha ?hb ?e ?_ ?s ?g ?z; (case F => k_asm); (case N => k_asm); (case t => exact News.isTup (by k_asm) (by k_mem)); (case h1 => decide); (case ha => decide); (case hb => first | decide | exact of_decide_eq_true rfl | (simp; done)); (case e => kl_lit); (case s => with_unfolding_all rfl); (case g => (intro _; with_unfolding_all rfl)); (case z => exact Nat.le_of_ble_eq_true rfl)); intro D' h' F' N' l1; (try k_lt l1); (try k_sweep)))
set_option maxRecDepth 100000 in
set_option maxHeartbeats 2000000 in
theorem trees_at {w : World} {mean : ExcName → Option Value} {mg mb : Str → Option Value} {dp un : Nat} {gd : Option (List Code)} {cn : Str} {cs : Scope} {a : Addr} {ccd : Value} {cl : List (Str × Addr)} {outer : List Env} {A₀ : Around} {base h₀ : Heap} {L : Addr} {m : Str → Option Value} {s : Shared} {Q E : Value → Shared → Prop}
    (B : Below A₀ base outer h₀) (F : Fr h₀ L s.heap m) (X : (Mine.hd.heap_39 w.params).In h₀) (T : Top Mine.hd.view_39 (looseW Mine.hd.view_39 [Str.ofString "ChanError"]) mean mg mb h₀) (hk : cs.kind = .function)
    (hdp : dp + 20 < recursionLimit) (_hun : un + 160 < cLine)
    {l : Addr} {x y : Int} {tx ty : Tok} {n : Nat} {news : List (Addr × Obj)} {f : Obj → List (Addr × Obj)} (N : News h₀ L s.heap news) (U : ∀ o', Upd l (W.listOf #[.int x tx, .int y ty] n) o' news (f o'))
    (ret : ∀ x' tx' y' ty' n' h' tk', Fr h₀ L h' m → News h₀ L h' (f (W.listOf #[.int x' tx', .int y' ty'] n')) → Q (.bool true) { s with heap := h', toks := tk' }) :
    wpAny (model Challenge.rw_xm0163_01.row.prog w) (ktrTop dp un gd cn cs L a ccd cl outer) (call (.ref 113) [.ref l]) Q E s := by
  revert X; k_fill; intro X
  refine wpAny_call ?_
  have N1 := news_one N (upd_mem (U default))
  refine' code_defG B F X N1 T rfl rfl hk ?k6 ?k7 ?k8 ?k9 ?kB ?_ ?c2 ?c3 ?c4 ?c5
  case k6 => k_is
  case k7 => k_is
  case k8 => ktr_room
  case k9 => exact BindsTo.of_eq rfl
  case kB => exact locs rfl
  case c2 => exact rfl
  case c3 => exact rfl
  case c4 => exact rfl
  case c5 => decide
  intro g' L' h' FG' F' N' B' X' T' kG'
  (try dsimp only)
  (try k_fold)
  w_top off
  k_steps
  all_goals (
    rename Fr h₀ _ _ _ => F9
    rename News h₀ _ _ _ => N9
    rename Fr g' _ _ _ => FG9
    have kp9 : ∀ b o, b ≠ l → s.heap.get? b = some o → _ := fun b o hb e => FG9.keep b o (kG' b o e (by simpa using hb))
    exact ret _ _ _ _ _ _ _ F9 (upd_pair (U _) N (news_one N9 (by k_mem)) kp9))
end Mine

end

section
open PySem PySem.Spec PySem.W PyProof.Rows PySem.Calls
set_option Elab.async false
namespace Mine
open LCg
/-- what the ledger entries alone bear -/
def AR (acc : List (Addr × Obj)) (v : Value) (d : PyData) : Prop := ∀ h : Heap, (∀ p ∈ acc, h.get? p.1 = some p.2) → Reads h v d []
def ARs (acc : List (Addr × Obj)) (vs : List Value) (ds : List PyData) : Prop := ∀ h : Heap, (∀ p ∈ acc, h.get? p.1 = some p.2) → ReadsAll h vs ds []
theorem ARs.snoc {acc new : List (Addr × Obj)} {y : Value} {d : PyData} {vs : List Value} {ds : List PyData} (x : ARs acc vs ds) (hy : AR new y d) : ARs (new ++ acc) (vs ++ [y]) (ds ++ [d]) := by
  intro h hm
  have xs := x h fun p hp => hm p (List.mem_append_right _ hp)
  have ys := hy h fun p hp => hm p (List.mem_append_left _ hp)
  clear x hy hm
  induction vs generalizing ds with
  | nil => cases xs; exact ReadsAll.cons ys .nil
  | cons v vs ih =>
    obtain ⟨d', ds', rfl, r, rs⟩ := readsAll_cons xs rfl
    exact ReadsAll.cons r (ih rs)
section
variable {prog : Program} {w : World} {A : Around} {h₀ : Heap} {L : Addr} {m : Str → Option Value} {env : Env} {elt : PySem.Expr} {xn : Str} {scope : Scope} {cl : List (Str × Addr)} {s : Shared} {P : Nat → Value → Prop} {Fin : List Value → List (Addr × Obj) → Prop}
theorem rest_src {nt : Nat} {l : Addr} {base0 : List (Addr × Obj)} {PD : PyData → Prop} (hb : ∀ p ∈ base0, p.1 ≠ l)
    (turn : ∀ i v C oC m₂ h tk x tx y ty n rest (Q' E' : Value → Shared → Prop), i < nt → P i v → NsObj oC m₂ → m₂ xn = some v → Fr h₀ L h m → News h₀ L h ((C, oC) :: (l, W.listOf #[.int x tx, .int y ty] n) :: rest) → @Ne Nat C l → (∀ p ∈ rest, p.1 ≠ l) → (∀ p ∈ base0, p ∈ rest) →
      (∀ y9 d x' tx' y' ty' n' h' tk' new, Fr h₀ L h' m → News h₀ L h' (new ++ ((C, oC) :: (l, W.listOf #[.int x' tx', .int y' ty'] n') :: rest)) → (∀ q ∈ ((C, oC) :: (l, W.listOf #[.int x tx, .int y ty] n) :: rest), ∀ p ∈ new, q.1 < p.1) → AR new y9 d → PD d → Q' y9 { s with heap := h', toks := tk' }) →
      wpAny (model prog w) A (eval elt (compEnvC scope cl C env)) Q' E' { s with heap := h, toks := tk })
    (fin : ∀ ys ds acc x tx y ty n, ys.length = nt → (∀ d ∈ ds, PD d) → ARs acc ys ds → (∀ p ∈ acc, p.1 ≠ l) → Fin ys ((l, W.listOf #[.int x tx, .int y ty] n) :: (acc ++ base0)))
    {x : Int} {tx : Tok} {y : Int} {ty : Tok} {n : Nat} : CompRest prog w A h₀ L m env elt xn scope cl s (fun _ => True) P Fin nt 0 [] ((l, W.listOf #[.int x tx, .int y ty] n) :: base0) := by
  have all : ∀ k i ys ds acc x tx y ty n, i + k = nt → ys.length = i → (∀ d ∈ ds, PD d) → ARs acc ys ds → (∀ p ∈ acc, p.1 ≠ l) → CompRest prog w A h₀ L m env elt xn scope cl s (fun _ => True) P Fin k i ys ((l, W.listOf #[.int x tx, .int y ty] n) :: (acc ++ base0)) := by
    intro k
    induction k with
    | zero =>
      intro i ys ds acc x tx y ty n e e2 hd hy hacc
      exact CompRest.zero (fin ys ds acc x tx y ty n (by omega) hd hy hacc)
    | succ k ih =>
      intro i ys ds acc x tx y ty n e e2 hd hy hacc
      refine CompRest.succ fun v I oI C oC D m₂ h tk E' hv hC hx F N off ne => ?_
      have o1 := off.1
      refine turn i v C oC m₂ h tk x tx y ty n ((I, oI) :: (D, lst ys) :: (acc ++ base0)) _ E' (by omega) hv hC hx F (fun p hp => ?_) (Ne.symm o1.2.1) (fun p hp => ?_) (fun p hp => .tail _ (.tail _ (List.mem_append_right _ hp))) fun y9 d x' tx' y' ty' n' h' tk' new F' N' lt hr hpd => ?_
      · refine N p ?_
        simp only [List.mem_append, List.mem_cons] at hp ⊢
        rcases hp with rfl | rfl | rfl | rfl | hp
        · exact .inr (.inl rfl)
        · exact .inr (.inr (.inr (.inl rfl)))
        · exact .inl rfl
        · exact .inr (.inr (.inl rfl))
        · exact .inr (.inr (.inr (.inr hp)))
      · simp only [List.mem_append, List.mem_cons] at hp
        rcases hp with rfl | rfl | hp | hp
        · exact Ne.symm o1.1
        · exact Ne.symm o1.2.2
        · exact hacc p hp
        · exact hb p hp
      · refine ⟨h', tk', (l, W.listOf #[.int x' tx', .int y' ty'] n') :: ((new ++ acc) ++ base0), rfl, F', fun p hp => ?_, ⟨o1, ?_⟩, trivial, ih (i + 1) (ys ++ [y9]) (ds ++ [d]) (new ++ acc) x' tx' y' ty' n' (by omega) (by simp [e2]) (fun d' hd' => ?_) (hy.snoc hr) (fun p hp => ?_)⟩
        · refine N' p ?_
          simp only [List.mem_append, List.mem_cons] at hp ⊢
          rcases hp with rfl | rfl | rfl | rfl | (hp | hp) | hp
          · exact .inr (.inr (.inr (.inl rfl)))
          · exact .inr (.inl rfl)
          · exact .inr (.inr (.inr (.inr (.inl rfl))))
          · exact .inr (.inr (.inl rfl))
          · exact .inl hp
          · exact .inr (.inr (.inr (.inr (.inr (.inl hp)))))
          · exact .inr (.inr (.inr (.inr (.inr (.inr hp)))))
        · rw [List.append_assoc]
          refine off3_app (Off3.of fun p hp => ⟨?_, ?_, ?_⟩) off.2
          · exact Nat.ne_of_gt (lt (I, oI) (.tail _ (.tail _ (.head _))) p hp)
          · exact Nat.ne_of_gt (lt (C, oC) (.head _) p hp)
          · exact Nat.ne_of_gt (lt (D, lst ys) (.tail _ (.tail _ (.tail _ (.head _)))) p hp)
        · rcases List.mem_append.mp hd' with q | q
          · exact hd d' q
          · rw [List.mem_singleton.mp q]; exact hpd
        · rcases List.mem_append.mp hp with q | q
          · exact Nat.ne_of_gt (lt _ (.tail _ (.head _)) p q)
          · exact hacc p q
  exact all nt 0 [] [] [] x tx y ty n (by omega) rfl (fun _ h => nomatch h) (fun _ _ => .nil) (fun _ h => nomatch h)
end
end Mine

end

section
open PySem PySem.Spec PySem.W PyProof.Rows PySem.Calls
set_option Elab.async false
set_option maxRecDepth 100000
namespace Mine
open LCg SeqAt
def PD (d : PyData) : Prop := d.canLay0 = true ∧ d.depth ≤ 2
theorem lay_all : ∀ {xs : List PyData}, (∀ d ∈ xs, PD d) → PyData.canLayAll0 xs = true ∧ PyData.depthAll xs ≤ 2
  | [], _ => ⟨rfl, Nat.zero_le _⟩
  | x :: xs, h => by
    obtain ⟨a, b⟩ := lay_all fun d hd => h d (.tail _ hd)
    obtain ⟨c, e⟩ := h x (.head _)
    refine ⟨?_, ?_⟩
    · simp [PyData.canLayAll0, a, c]
    · simp only [PyData.depthAll]; omega
theorem var_lay {nds vds : List PyData} {txd : PyData} (hn : ∀ d ∈ nds, PD d) (ht : PD txd) (hv : ∀ d ∈ vds, PD d) : (varD nds txd vds).canLay0 = true ∧ (varD nds txd vds).depth ≤ 4 := by
  obtain ⟨a, b⟩ := lay_all hn
  obtain ⟨c, d⟩ := lay_all hv
  obtain ⟨e, f⟩ := ht
  refine ⟨?_, ?_⟩
  · simp only [varD, PyData.canLay0, PyData.canLayAll0, a, c, e, Bool.and_true]
    decide +kernel
  · simp only [varD, PyData.depth, PyData.depthAll]; omega
theorem lay_list : ∀ {xs : List PyData}, (∀ d ∈ xs, d.canLay0 = true ∧ d.depth ≤ 4) → PyData.canLayAll0 xs = true ∧ PyData.depthAll xs ≤ 4
  | [], _ => ⟨rfl, Nat.zero_le _⟩
  | x :: xs, h => by
    obtain ⟨a, b⟩ := lay_list fun d hd => h d (.tail _ hd)
    obtain ⟨c, e⟩ := h x (.head _)
    refine ⟨?_, ?_⟩
    · simp [PyData.canLayAll0, a, c]
    · simp only [PyData.depthAll]; omega
theorem shaped_list {xs : List PyData} (h : ∀ d ∈ xs, d.canLay0 = true ∧ d.depth ≤ 4) : shaped (.list xs) = true := by
  obtain ⟨a, b⟩ := lay_list h
  exact Bool.and_eq_true_iff.mpr ⟨a, decide_eq_true (show PyData.depthAll xs + 1 ≤ 64 by omega)⟩
theorem one_lay {d : PyData} (h : PD d) : ∀ d' ∈ [d], PD d' := fun d' hd => by rw [List.mem_singleton.mp hd]; exact h
theorem nil_lay : ∀ d' ∈ ([] : List PyData), PD d' := fun _ h => nomatch h
theorem shaped_varsD {nds vds : List PyData} {txd : PyData} (hn : ∀ d ∈ nds, PD d) (ht : PD txd) (hv : ∀ d ∈ vds, PD d) : shaped (varsD nds txd vds) = true := by
  unfold varsD
  split
  · refine shaped_list fun d hd => ?_
    obtain ⟨i, hi, e⟩ := List.mem_iff_getElem.mp hd
    rw [List.getElem_zipWith] at e
    rw [← e]
    exact var_lay (one_lay (hn _ (List.getElem_mem _))) ht (one_lay (hv _ (List.getElem_mem _)))
  · split
    · refine shaped_list fun d hd => ?_
      rw [List.mem_singleton.mp hd]
      exact var_lay hn ht hv
    · refine shaped_list fun d hd => ?_
      obtain ⟨n, h, rfl⟩ := List.mem_map.mp hd
      exact var_lay (one_lay (hn n h)) ht nil_lay
theorem names_facts {k : Int} (h0 : 0 ≤ k) (h1 : k < 4) (t1 t2 t3 t4 : Tok) : ∃ nds, 1 ≤ (slicePick #[Value.str (Str.ofString "a") t1, Value.str (Str.ofString "b") t2, Value.str (Str.ofString "_") t3, Value.str (Str.ofString "a") t4] none (some (1 + k)) none).size ∧
    (slicePick #[Value.str (Str.ofString "a") t1, Value.str (Str.ofString "b") t2, Value.str (Str.ofString "_") t3, Value.str (Str.ofString "a") t4] none (some (1 + k)) none).size ≤ 4 ∧
    (∀ h, ReadsAll h (slicePick #[Value.str (Str.ofString "a") t1, Value.str (Str.ofString "b") t2, Value.str (Str.ofString "_") t3, Value.str (Str.ofString "a") t4] none (some (1 + k)) none).toList nds []) ∧ (∀ d ∈ nds, PD d) := by
  have pd : ∀ x : Str, PyData.canLay0 (.str x) = true → PD (.str x) := fun x e => ⟨e, Nat.zero_le _⟩
  have pa := pd (Str.ofString "a") (by decide +kernel)
  have pb := pd (Str.ofString "b") (by decide +kernel)
  have pc := pd (Str.ofString "_") (by decide +kernel)
  have hk : k = 0 ∨ k = 1 ∨ k = 2 ∨ k = 3 := by omega
  rcases hk with rfl | rfl | rfl | rfl
  · rw [show slicePick #[Value.str (Str.ofString "a") t1, Value.str (Str.ofString "b") t2, Value.str (Str.ofString "_") t3, Value.str (Str.ofString "a") t4] none (some (1 + 0)) none = #[Value.str (Str.ofString "a") t1] from slicePick_upto _ 1 (by simp)]
    refine ⟨[_], by simp, by simp, fun h => .cons (.str _ _) .nil, fun d hd => ?_⟩
    simp only [List.mem_cons, List.not_mem_nil, or_false] at hd
    subst hd; exact pa
  · rw [show slicePick #[Value.str (Str.ofString "a") t1, Value.str (Str.ofString "b") t2, Value.str (Str.ofString "_") t3, Value.str (Str.ofString "a") t4] none (some (1 + 1)) none = #[Value.str (Str.ofString "a") t1, Value.str (Str.ofString "b") t2] from slicePick_upto _ 2 (by simp)]
    refine ⟨[_, _], by simp, by simp, fun h => .cons (.str _ _) (.cons (.str _ _) .nil), fun d hd => ?_⟩
    simp only [List.mem_cons, List.not_mem_nil, or_false] at hd
    rcases hd with rfl | rfl <;> assumption
  · rw [show slicePick #[Value.str (Str.ofString "a") t1, Value.str (Str.ofString "b") t2, Value.str (Str.ofString "_") t3, Value.str (Str.ofString "a") t4] none (some (1 + 2)) none = #[Value.str (Str.ofString "a") t1, Value.str (Str.ofString "b") t2, Value.str (Str.ofString "_") t3] from slicePick_upto _ 3 (by simp)]
    refine ⟨[_, _, _], by simp, by simp, fun h => .cons (.str _ _) (.cons (.str _ _) (.cons (.str _ _) .nil)), fun d hd => ?_⟩
    simp only [List.mem_cons, List.not_mem_nil, or_false] at hd
    rcases hd with rfl | rfl | rfl <;> assumption
  · rw [show slicePick #[Value.str (Str.ofString "a") t1, Value.str (Str.ofString "b") t2, Value.str (Str.ofString "_") t3, Value.str (Str.ofString "a") t4] none (some (1 + 3)) none = #[Value.str (Str.ofString "a") t1, Value.str (Str.ofString "b") t2, Value.str (Str.ofString "_") t3, Value.str (Str.ofString "a") t4] from slicePick_upto _ 4 (by simp)]
    refine ⟨[_, _, _, _], by simp, by simp, fun h => .cons (.str _ _) (.cons (.str _ _) (.cons (.str _ _) (.cons (.str _ _) .nil))), fun d hd => ?_⟩
    simp only [List.mem_cons, List.not_mem_nil, or_false] at hd
    rcases hd with rfl | rfl | rfl | rfl <;> assumption
theorem pd_int (a b : Int) : PD (.tuple [.str (Str.ofString "int"), .int a, .int b]) :=
  ⟨by simp only [PyData.canLay0, PyData.canLayAll0, Bool.and_true]; decide +kernel, by simp [PyData.depth, PyData.depthAll]⟩
theorem pd_name (a : Int) : PD (.tuple [.str (Str.ofString "name"), .int a, .str (Str.ofString "x")]) :=
  ⟨by simp only [PyData.canLay0, PyData.canLayAll0, Bool.and_true, Bool.true_and]; decide +kernel, by simp [PyData.depth, PyData.depthAll]⟩
theorem names_news {h₀ h : Heap} {L D : Addr} {a b c : Addr × Obj} {r : List (Addr × Obj)} {k : Int} {t1 t2 t3 t4 : Tok} {n : Nat} (h0 : 0 ≤ k) (h1 : k < 4)
    (N : News h₀ L h (a :: b :: c :: (D, W.listOf (slicePick #[Value.str (Str.ofString "a") t1, Value.str (Str.ofString "b") t2, Value.str (Str.ofString "_") t3, Value.str (Str.ofString "a") t4] none (some (1 + k)) none) n) :: r)) :
    ∃ nvs nds, News h₀ L h (a :: b :: c :: (D, W.listOf nvs n) :: r) ∧ 1 ≤ nvs.size ∧ nvs.size ≤ 4 ∧ (∀ h, ReadsAll h nvs.toList nds []) ∧ (∀ d ∈ nds, PD d) := by
  obtain ⟨nds, x1, x2, x3, x4⟩ := names_facts h0 h1 t1 t2 t3 t4
  exact ⟨_, nds, N, x1, x2, x3, x4⟩
theorem ty_any {l : Addr} {v : Value} {ex : List (Addr × Obj)} (x : TY l v ex) : ∃ d, PD d ∧ ∀ h : Heap, (∀ p ∈ ex, h.get? p.1 = some p.2) → Reads h v d [] := by
  rcases x with ⟨rfl, rfl⟩ | ⟨D, u1, u2, u3, rfl, rfl, _⟩ | ⟨D, D1, u1, u2, u3, u4, u5, rfl, rfl, _⟩
  · exact ⟨.none, ⟨rfl, Nat.zero_le _⟩, fun _ _ => .none⟩
  · exact ⟨tyD1, ⟨by decide +kernel, by decide +kernel⟩, fun h hm => Reads.tuple (hm _ (.head _)) rfl rfl (.cons (.str _ _) (.cons (.int _ _) (.cons .none (.cons (.str _ _) .nil))))⟩
  · exact ⟨tyD2, ⟨by decide +kernel, by decide +kernel⟩, fun h hm => Reads.tuple (hm _ (.head _)) rfl rfl (.cons (.str _ _) (.cons (.int _ _) (.cons (Reads.tuple (hm _ (.tail _ (.head _))) rfl rfl (.cons (.str _ _) (.cons (.int _ _) (.cons .none (.cons (.str _ _) .nil))))) .nil)))⟩
theorem news_back {h₀ h : Heap} {L : Addr} {a b c d : Addr × Obj} {ex acc : List (Addr × Obj)} (N : News h₀ L h (ex ++ (a :: b :: c :: d :: acc))) : News h₀ L h (a :: b :: c :: d :: (ex ++ acc)) := fun p hp => N p (by
  simp only [List.mem_append, List.mem_cons] at hp ⊢
  rcases hp with hp | hp | hp | hp | hp | hp <;> simp [hp])
theorem news4 {h₀ h : Heap} {L : Addr} {a b c d : Addr × Obj} {r : List (Addr × Obj)} (N : News h₀ L h (a :: b :: c :: d :: r)) : News h₀ L h [a, b, c, d] := fun p hp => N p (by
  simp only [List.mem_cons, List.not_mem_nil, or_false] at hp ⊢
  rcases hp with hp | hp | hp | hp <;> simp [hp])
theorem eqv_shaped {d : PyData} (h : shaped d = true) : PyData.eqv d d = true := eqv_refl d (canLay_of_shaped h)
theorem ne_same {prog : Program} {w : World} {A : Around} {E : Value → Shared → Prop} {s : Shared} {a b : Value} {d : PyData} {as bs : List Addr} {Q : Value → Shared → Prop} (ra : Reads s.heap a d as) (rb : Reads s.heap b d bs) (hs : shaped d = true) (hu : A.units + 64 < cLine) (h : Q (.bool false) s) : wpAny (model prog w) A (compareOp .NotEq a b) Q E s :=
  ne_dataH ra rb hs hs hu (by rw [eqv_shaped hs]; exact h)
end Mine

end

section
open PySem PySem.Spec PySem.W PyProof.Rows PySem.Calls
set_option Elab.async false
set_option maxRecDepth 100000
namespace Mine
open LCg
theorem str3 {a b c : Str} {t1 t2 t3 : Tok} {v : Value} (ha : a.length ≤ 4) (hb : b.length ≤ 4) (hc : c.length ≤ 4) (h : v = .str a t1 ∨ v = .str b t2 ∨ v = .str c t3) : ∃ x t, v = .str x t ∧ x.length ≤ 4 := by
  rcases h with rfl | rfl | rfl
  · exact ⟨_, _, rfl, ha⟩
  · exact ⟨_, _, rfl, hb⟩
  · exact ⟨_, _, rfl, hc⟩
theorem dot_len : (Str.ofString ".").length = 1 := by decide +kernel
theorem news_turn {h₀ h h' : Heap} {L : Addr} {news : List (Addr × Obj)} (N : News h₀ L h news) (kp : ∀ b o, b ≠ L → h.get? b = some o → h'.get? b = some o) : News h₀ L h' news := fun p hp => ⟨kp _ _ (N p hp).2.1 (N p hp).1, (N p hp).2⟩
theorem fresh_fr {h₀ h : Heap} {L l : Addr} {m : Str → Option Value} (F : Fr h₀ L h m) (e : h.get? l = none) : l ≠ L ∧ h₀.get? l = none := by
  refine ⟨fun q => ?_, ?_⟩
  · obtain ⟨o, _, _, ho, _⟩ := F.ns
    rw [q, ho] at e; cases e
  · cases q : h₀.get? l with
    | none => rfl
    | some o => rw [F.keep _ _ q] at e; cases e
theorem pool_news {h₀ h h' : Heap} {L l Lc : Addr} {m : Str → Option Value} {o oc : Obj} {news : List (Addr × Obj)} (F : Fr h₀ L h m) (N : News h₀ L h news) (hm : (Lc, oc) ∈ news) (kp : ∀ b o, h.get? b = some o → h'.get? b = some o) (hl : h'.get? l = some o) (e : h.get? l = none) :
    News h₀ L h' [(l, o), (Lc, oc)] ∧ @Ne Nat Lc l := by
  have z := N _ hm
  refine ⟨news_cons ⟨hl, fresh_fr F e⟩ (news_cons ⟨kp _ _ z.1, z.2⟩ News.nil), fun q => ?_⟩
  rw [show Lc = l from q] at z
  rw [e] at z
  cases z.1
theorem perm4 {h₀ h : Heap} {L : Addr} {a b c d : Addr × Obj} {r : List (Addr × Obj)} (N : News h₀ L h (a :: b :: c :: d :: r)) : News h₀ L h [c, d, a] :=
  news_cons (N _ (.tail _ (.tail _ (.head _)))) (news_cons (N _ (.tail _ (.tail _ (.tail _ (.head _))))) (news_cons (N _ (.head _)) News.nil))
local macro_rules | `(tactic| walk_at "call ref") => `(tactic| (k_here; (with_reducible show wpAny _ _ (call (Value.ref 80) _) _ _ _); refine hold ?_))
local macro_rules | `(tactic| walk_at "call ref") => `(tactic| (k_here; (with_reducible show wpAny _ _ (call (Value.ref 80) _) _ _ _); k_dflt (refine' take_at ?k1 ?k2 ?k3 ?k4 ?k5 ?kK ?kU ?t0 ?t1 ?kd ?ku ?_; (case k2 => k_asm); (case k1 => k_asm); (case k3 => k_asm); (case k4 => k_asm); (case k5 => k_asm); (case kK => first | exact rfl | assumption); (case kU => (intro _; k_upd)); (case t0 => first | decide | omega | assumption); (case t1 => first | decide | omega | assumption); (case kd => ktr_room); (case ku => ktr_units)); intro k t x' tx' y' ty' n' h' tk' hk0 hk1 F' N' kp; (try dsimp only at N'); (try k_sweep)))
local macro_rules | `(tactic| walk_at "subscriptTail Name Slice ref ref") => `(tactic| (k_here; (with_reducible show wpAny _ _ (subscriptTail _ (PySem.Expr.Slice _ _ none _) (Value.ref _) (Value.ref _)) _ _ _); k_dflt (refine' kmk_slice ?F ?N ?l ?p ?q ?_ ?s ?t ?z; (case F => k_asm); (case N => k_asm); (case l => kmk_list); (case p => kmk_part); (case q => kmk_part); (case s => with_unfolding_all rfl); (case t => kmk_pure); (case z => kmk_size)); intro D' h' F' N' l1; (try k_lt l1); (try k_sweep)))
local macro_rules | `(tactic| walk_at "CompSrc") => `(tactic| (k_here; refine hold ?_))
local macro_rules | `(tactic| walk_at "eval Name") => `(tactic| (k_here; (with_reducible show wpAny _ _ (eval (Expr.Name _ _) (compEnvC _ _ _ _)) _ _ _); k_dflt (refine' lcf_cell ?N ?c ?m ?d ?_ ?a ?b; (case a => rfl); (case b => rfl); (case c => rfl); (case N => k_asm); (case m => ((repeat (refine List.Mem.tail _ ?_)); assumption)); (case d => with_reducible assumption); k_whole)))
local macro_rules | `(tactic| walk_at "call ref") => `(tactic| (k_here; (with_reducible show wpAny _ _ (call (Value.ref 87) _) _ _ _); refine hold ?_))
local macro_rules | `(tactic| walk_at "call ref") => `(tactic| (k_here; (with_reducible show wpAny _ _ (call (Value.ref 87) _) _ _ _); k_dflt (refine' one_at ?k1 ?k2 ?k3 ?k4 ?k5 ?kK ?kU ?kd ?ku ?h0 ?hth ?s0 ?s1 ?_; (case k2 => k_asm); (case k1 => k_asm); (case k3 => k_asm); (case k4 => k_asm); (case k5 => k_asm); (case kK => first | exact rfl | assumption); (case kU => (intro _; k_upd)); (case hth => is_list); (case h0 => (intro _ _ hq; simp at hq)); (case s0 => first | decide | (simp; done) | omega); (case s1 => first | decide | (simp; done) | omega); (case kd => ktr_room); (case ku => ktr_units)); intro v x' tx' y' ty' n' h' tk' hv F' N' kp; (try dsimp only at N'); simp only [List.mem_cons, List.not_mem_nil, or_false] at hv; obtain ⟨x9, t9, q9, b9⟩ := str3 (by decide +kernel) (by decide +kernel) (by decide +kernel) hv; (replace hv := q9); (all_goals (subst hv; (try k_sweep)))))
local macro_rules | `(tactic| walk_at "call ref") => `(tactic| (k_here; (with_reducible show wpAny _ _ (call (Value.ref 87) _) _ _ _); k_dflt (refine' one_at ?k1 ?k2 ?k3 ?k4 ?k5 ?kK ?kU ?kd ?ku ?h0 ?hth ?s0 ?s1 ?_; (case k2 => k_asm); (case k1 => k_asm); (case k3 => k_asm); (case k4 => k_asm); (case k5 => k_asm); (case kK => first | exact rfl | assumption); (case kU => (intro _; (refine' Upd.tail ?a ?b; (case a => k_ne); (case b => (refine' Upd.tail ?a ?b; (case a => k_ne); (case b => (refine' Upd.tail ?a ?b; (case a => k_ne); (case b => (refine' Upd.tail ?a ?b; (case a => k_ne); (case b => exact Upd.head (by assumption))))))))))); (case hth => is_list); (case h0 => (intro _ _ hq; simp at hq)); (case s0 => first | decide | (simp; done) | omega); (case s1 => first | decide | (simp; done) | omega); (case kd => ktr_room); (case ku => ktr_units)); intro v x' tx' y' ty' n' h' tk' hv F' N' kp; (try dsimp only at N'); simp only [List.mem_cons, List.not_mem_nil, or_false] at hv; (rcases hv with hv | hv); (all_goals (subst hv; (try k_sweep)))))
local macro_rules | `(tactic| walk_at "call ref") => `(tactic| (k_here; (with_reducible show wpAny _ _ (call (Value.ref 106) _) _ _ _); refine hold ?_))
local macro_rules | `(tactic| walk_at "call ref") => `(tactic| (k_here; (with_reducible show wpAny _ _ (call (Value.ref 113) _) _ _ _); k_dflt (refine' trees_at ?k1 ?k2 ?k3 ?k4 ?kK ?kd ?ku ?k5 ?kU ?_; (case k2 => k_asm); (case k1 => k_asm); (case k3 => k_asm); (case k4 => k_asm); (case k5 => k_asm); (case kK => first | exact rfl | assumption); (case kU => (intro _; k_upd)); (case kd => ktr_room); (case ku => ktr_units)); intro x' tx' y' ty' n' h' tk' F' N'; (try dsimp only at N'); (try k_sweep)))
local macro_rules | `(tactic| walk_at "binaryOp Add str str") => `(tactic| (k_here; (with_reducible show wpAny _ _ (binaryOp Operator.Add (Value.str _ _) (Value.str _ _)) _ _ _); refine' add_str ?_ ?z9; (case z9 => ((try simp only [PySem.Str.length_append]); (have hdot := dot_len); rw [sizeLine_eq]; omega)); intro t9 k9))
local macro_rules | `(tactic| walk_at "call ref") => `(tactic| (k_here; (with_reducible show wpAny _ _ (call (Value.ref 99) _) _ _ _); refine hold ?_))
local macro_rules | `(tactic| walk_at "call ref") => `(tactic| (k_here; (with_reducible show wpAny _ _ (call (Value.ref 92) _) _ _ _); refine hold ?_))
local macro_rules | `(tactic| walk_at "call ref") => `(tactic| (k_here; (with_reducible show wpAny _ _ (call (Value.ref 73) _) _ _ _); refine hold ?_))

set_option maxHeartbeats 4000000 in
theorem law_holds : PySem.Challenge.rw_xm0163_01.Holds := Mine.hd (by
  k_go0
  (all_goals try k_fold)
  w_top off
  k_steps
  unfold Hold
  rename Fr _ _ _ _ => F8
  rename News _ _ _ _ => N8
  k_dflt (refine' told_fault ?B F8 ?X ?T rfl ?kd ?ku ?hn ?hv ?rn ?rv ?rt ?n0 ?n1 ?m1 ?hm ?hne ?_)
  case B => k_asm
  case X => k_asm
  case T => k_asm
  case kd => ktr_room
  case ku => ktr_units
  case hn => is_list
  case hv => is_list
  case rn => exact .cons (.str _ _) (.cons (.str _ _) (.cons (.str _ _) .nil))
  case rv =>
    exact .cons (Reads.tuple (N8 _ (.tail _ (.tail _ (.head _)))).1 rfl rfl (.cons (.str _ _) (.cons (.int _ _) (.cons (.int _ _) .nil)))) (.cons (Reads.tuple (N8 _ (.tail _ (.head _))).1 rfl rfl (.cons (.str _ _) (.cons (.int _ _) (.cons (.int _ _) .nil)))) .nil)
  case rt => exact .none
  case n0 => simp
  case n1 => simp
  case m1 => simp
  case hm => simp
  case hne => simp
  intro tf hf tkf F' kpf
  have N' := news_turn N8 kpf
  clear N8 F8 kpf
  k_sweep
  k_steps
  unfold Hold
  rename Fr _ _ _ _ => F8
  rename News _ _ _ _ => N8
  k_dflt (refine' pool_spec ?B F8 ?X ?T rfl ?kd ?ku ?hL ?hI ?hn ?_)
  case B => k_asm
  case X => k_asm
  case T => k_asm
  case kd => ktr_room
  case ku => ktr_units
  case hL => is_list
  case hI => assumption
  case hn => omega
  intro l x tx y ty n h' tk' F' kp hl hnone
  obtain ⟨N', e1⟩ := pool_news F8 N8 (.tail _ (.tail _ (.tail _ (.tail _ (.head _))))) kp hl hnone
  clear F8 N8 kp hl hnone
  (try k_sweep)
  k_steps
  unfold Hold
  rename Fr _ _ _ _ => F8
  rename News _ _ _ _ => N8
  rename IsRange _ _ _ _ _ _ _ _ => hr8
  rename _ < (6 : Int) => hk61
  rename (0 : Int) ≤ _ => hk60
  obtain ⟨kn, hkn⟩ := Int.eq_ofNat_of_zero_le hk60
  subst hkn
  clear hk60
  rename _ < (4 : Int) => hk41
  rename (0 : Int) ≤ _ => hk40
  have N10 := perm4 N8
  refine LCg.CompSrc.range (n := kn) (by rfl) F8 N10 hr8 (small_range (by omega)) (size_range (by omega)) (by rw [sizeLine_eq]; omega) ?_
  intro g'
  refine rest_src (PD := PD) ?hb ?turn ?fin
  case hb =>
    intro p hp
    simp only [List.mem_cons, List.not_mem_nil, or_false] at hp
    rcases hp with rfl | rfl
    · exact e1
    · (refine neN ?_; (try dsimp only); omega)
  case turn =>
    intro i v C oC m₂ h tk x tx y ty n rest Q' E' hi hv hC hx F N hCl hrest sub hQ'
    obtain ⟨t9, rfl⟩ := hv
    have hc9 := sub _ (.head _)
    k_steps
    · rename Fr _ _ _ _ => F9
      rename News _ _ _ _ => N9
      refine hQ' _ _ _ _ _ _ _ _ _ [_, _, _] F9 N9 (lt3 (by assumption) (by assumption) (by assumption)) (fun h9 hm9 => Reads.tuple (hm9 _ (.tail _ (.tail _ (.head _)))) rfl rfl (.cons (.str _ _) (.cons (.int _ _) (.cons (.int _ _) .nil)))) (pd_int _ _)
    · rename Fr _ _ _ _ => F9
      rename News _ _ _ _ => N9
      refine hQ' _ _ _ _ _ _ _ _ _ [_, _, _] F9 N9 (lt3 (by assumption) (by assumption) (by assumption)) (fun h9 hm9 => Reads.tuple (hm9 _ (.tail _ (.head _))) rfl rfl (.cons (.str _ _) (.cons (.int _ _) (.cons (.str _ _) .nil)))) (pd_name _)
  case fin =>
    intro ys ds acc x tx y ty n hlen hpd hars hacc
    (try unfold FinA)
    intro D9 h9 tk9 F' N' off9
    (try dsimp only)
    have o9 : @Ne Nat D9 l := Ne.symm off9.1
    have N11 := news_cons (N' _ (.head _)) (news_cons (N' _ (.tail _ (.head _))) (news_cons (N' _ (.tail _ (.tail _ (List.mem_append_right _ (.head _))))) (news_cons (N' _ (.tail _ (.tail _ (List.mem_append_right _ (.tail _ (.head _)))))) (fun p hp => N' p (.tail _ (.tail _ (List.mem_append_left _ hp)))))))
    clear N' off9
    k_steps
    unfold Hold
    rename Fr _ _ _ _ => F8
    rename News _ _ _ _ => N8
    k_dflt (refine' typex_any ?B F8 ?X ?T ?kK ?kd ?ku N8 ?kU ?_)
    case X => k_asm
    case T => k_asm
    case B => k_asm
    case kK => exact rfl
    case kd => ktr_room
    case ku => ktr_units
    case kU =>
      intro _
      refine' Upd.tail ?u1 (Upd.head ?u2)
      case u1 => k_ne
      case u2 =>
        intro p hp
        rcases List.mem_cons.mp hp with rfl | hp
        · exact e1
        rcases List.mem_cons.mp hp with rfl | hp
        · (refine neN ?_; (try dsimp only); omega)
        · exact hacc p hp
    intro v9 ex9 x' tx' y' ty' n' h' tk' F' N' hty
    replace N' := news_back N'
    clear F8 N8
    obtain ⟨d9, pt, rty⟩ := ty_any hty
    clear hty
    k_steps
    unfold Hold
    rename Fr _ _ _ _ => F8
    rename News _ _ _ _ => N8
    obtain ⟨nvs, nds, N7, a1, a2, rn, pn⟩ := names_news hk40 hk41 N8
    clear N8
    have rv := hars _ fun p hp => (N7 p (.tail _ (.tail _ (.tail _ (.tail _ (List.mem_append_right _ hp)))))).1
    have rt := rty _ fun p hp => (N7 p (.tail _ (.tail _ (.tail _ (.tail _ (List.mem_append_left _ hp)))))).1
    have ysz : ys.toArray.size = kn := by simp [hlen]
    have m1 : ys.toArray.size ≤ 8 := by omega
    have n1 : nvs.size ≤ 8 := by omega
    by_cases hm : ys.toArray.size = nvs.size ∨ ys.toArray.size ≤ 1
    case pos =>
      k_dflt (refine' told_ok ?B F8 ?X ?T ?kK ?kd ?ku ?hn ?hv (rn _) rv rt a1 n1 m1 hm ?_)
      case X => k_asm
      case T => k_asm
      case B => k_asm
      case kK => exact rfl
      case kd => ktr_room
      case ku => ktr_units
      case hn => exact ⟨_, (N7 _ (.tail _ (.tail _ (.tail _ (.head _))))).1, rfl, _, rfl⟩
      case hv => exact ⟨_, (N7 _ (.head _)).1, rfl, _, rfl⟩
      intro r9 as9 h8 tk8 kp8 hr8
      have F' := Fr.keeps F8 kp8
      have N' := News.grown N7 kp8
      have rv' := ReadsAll.keeps kp8 rv
      have rt' := Reads.keeps kp8 rt
      clear F8 N7 rv rt
      (try k_sweep)
      k_steps
      unfold Hold
      rename Fr _ _ _ _ => F8
      rename News _ _ _ _ => N7
      k_dflt (refine' split_ok ?B F8 ?X ?T ?kK ?kd ?ku ?hn ?hv (rn _) rv' rt' a1 n1 m1 hm ?_)
      case X => k_asm
      case T => k_asm
      case B => k_asm
      case kK => exact rfl
      case kd => ktr_room
      case ku => ktr_units
      case hn => exact ⟨_, (N7 _ (.tail _ (.tail _ (.tail _ (.head _))))).1, rfl, _, rfl⟩
      case hv => exact ⟨_, (N7 _ (.head _)).1, rfl, _, rfl⟩
      intro r8 as8 h7 tk7 kp7 hr7
      have F' := Fr.keeps F8 kp7
      have N' := news4 (News.grown N7 kp7)
      have hr9 := Reads.keeps kp7 hr8
      clear F8 N7 rv' rt' hr8
      (try k_sweep)
      k_steps
      k_dflt (refine' ne_same hr9 hr7 (shaped_varsD pn pt hpd) ?hu ?_)
      case hu => ktr_units
      clear hr9 hr7
      k_steps

    case neg =>
      have hm2 : 2 ≤ ys.toArray.size := by omega
      have hne2 : ys.toArray.size ≠ nvs.size := by omega
      k_dflt (refine' told_fault ?B F8 ?X ?T rfl ?kd ?ku ?hn ?hv (rn _) rv rt a1 n1 m1 hm2 hne2 ?_)
      case X => k_asm
      case T => k_asm
      case B => k_asm
      case kd => ktr_room
      case ku => ktr_units
      case hn => exact ⟨_, (N7 _ (.tail _ (.tail _ (.tail _ (.head _))))).1, rfl, _, rfl⟩
      case hv => exact ⟨_, (N7 _ (.head _)).1, rfl, _, rfl⟩
      intro tf hf tkf F' kpf
      have N' := news_turn N7 kpf
      clear F8 N7 kpf rv rt
      (try k_sweep)
      k_steps
      unfold Hold
      rename Fr _ _ _ _ => F8
      rename News _ _ _ _ => N7
      have rv := hars _ fun p hp => (N7 p (.tail _ (.tail _ (.tail _ (.tail _ (List.mem_append_right _ hp)))))).1
      have rt := rty _ fun p hp => (N7 p (.tail _ (.tail _ (.tail _ (.tail _ (List.mem_append_left _ hp)))))).1
      k_dflt (refine' split2 ?B F8 ?X ?T ?kK ?kd ?ku ?hn ?hv (rn _) rv rt a1 n1 m1 hm2 hne2 ?_)
      case X => k_asm
      case T => k_asm
      case B => k_asm
      case kK => exact rfl
      case kd => ktr_room
      case ku => ktr_units
      case hn => exact ⟨_, (N7 _ (.tail _ (.tail _ (.tail _ (.head _))))).1, rfl, _, rfl⟩
      case hv => exact ⟨_, (N7 _ (.head _)).1, rfl, _, rfl⟩
      intro r8 as8 h7 tk7 kp7 hr7
      have F' := Fr.keeps F8 kp7
      have N' := news4 (News.grown N7 kp7)
      clear F8 N7 rv rt
      cases hr7
      (try k_sweep)
      k_steps

)
end Mine

end

theorem PySem.Challenge.cw_xm0163_01_holds : PySem.Challenge.rw_xm0163_01.Holds :=
  Mine.law_holds
