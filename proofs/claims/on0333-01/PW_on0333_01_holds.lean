import PyProof.Rows.All
import Wide.All
import OpenK.AllK
import Wide.FinOn
import PySem.Challenge.RW_on0333_01
open PySem PySem.W PyProof.Rows PySem.Calls
set_option Elab.async false
set_option maxRecDepth 100000
set_option maxHeartbeats 40000000
set_option linter.unusedVariables false
set_option linter.unusedSimpArgs false
namespace Mine
open_top hd for PySem.Challenge.rw_on0333_01
end Mine

namespace Mine
theorem top_off_S0 : True := by
  w_top off
  trivial

theorem code_defS {prog : Program} {w : World} {A A₀ : Around} {s : Shared} {K : Frag} {L : Addr} {h₀ base : Heap} {m mg mb : Str → Option Value} {news : List (Addr × Obj)} {p : Program} {loose : List Str} {mean : ExcName → Option Value}
    {env : Env} {outer : List Env} {R : Result → Shared → Prop} {name qual : Str} {params : Arguments} {body : List Stmt} {scope : Scope} {dV kV doc pm cdv ct oc : Value} {an od : Option Addr} {osl : Array (Option Value)} {f : Addr} {args : Args} {binds : List (Str × Value)}
    (B : Below A₀ base outer h₀) (F : Fr h₀ L s.heap m) (X₀ : K.In h₀) (N : News h₀ L s.heap news) (T : Top p loose mean mg mb h₀) (hA : A.frames = some (env :: outer)) (hf : env.frame = some L) (hke : env.scope.kind = .function)
    (ho : K.lookup f = some ⟨oc, od, .func (fnOf name qual params body scope dV kV doc pm an cdv ct), osl⟩) (hcd : codeIn K cdv qual = true) (hroom : A.depth < recursionLimit)
    (hbind : BindsTo s (fnOf name qual params body scope dV kV doc pm an cdv ct) args binds) (hloc : ∀ y ∈ binds, scope.names.lookup y.1 = some .local)
    (h : ∀ g L' h₁, (∀ b o, s.heap.get? b = some o → b ∉ news.map (·.1) → g.get? b = some o) → Fr h₀ L g m → Fr g L' h₁ (fun y => binds.reverse.lookup y) → News g L' h₁ news → Below A base (env :: outer) g → K.In g → Top p loose mean mg mb g →
      wpAny (model prog w) (A.deeper (envOf qual scope L' f cdv)) (execs body (envOf qual scope L' f cdv))
        (fun fl s' => R (.ok (.ret (match fl with | .ret v => v | _ => .none))) s')
        (fun e s' => wpAny (model prog w) (A.deeper (envOf qual scope L' f cdv)) (leaving (envOf qual scope L' f cdv) e) (fun _ s'' => R (.error e) s'') (fun e' s'' => R (.error e') s'') s')
        { s with heap := h₁, toks := s.toks + binds.length })
    (hco : scope.isCoroutine = false) (hgen : scope.isGenerator = false) (hk : scope.kind = .function)
    (hcell : ∀ x ∈ scope.names, x.2 ≠ .cell) : codeAny (model prog w) A (.call (.ref f) args) R s := by
  obtain ⟨FG, BG, st, _⟩ := groundX (R := fun _ _ => True) B F N hA hf hke
  refine codeAny_call_def (fd := fnOf name qual params body scope dV kV doc pm an cdv ct) (body := body) (binds := binds) hroom ((X₀.keeps F.keep) _ _ ho) rfl (T.nolimit.keeps F.keep) (codeRec_of (X₀.keeps F.keep) hcd) rfl hbind hcell hloc (fun h₁ hns hk₁ => ?_) hco hgen hk
  exact h (hideAll s.heap (news.map (·.1))) s.heap.objs.size h₁ (fun b o e nm => hideAll_get _ e nm) FG ⟨hns, fun b o e => hk₁ b o (of_hideAll _ e), Nat.le_of_eq (hideAll_size _ _)⟩
    (fun p hp => ⟨hk₁ _ _ (N p hp).1, Nat.ne_of_lt (Heap.lt_size (N p hp).1), hideAll_none _ (List.mem_map_of_mem hp)⟩) BG (by exact X₀.keeps st) (by exact T.keeps st)

def Keep (T : List Addr) (h h' : Heap) : Prop := ∀ b o, h.get? b = some o → b ∉ T → h'.get? b = some o
theorem keep_of {T : List Addr} {h h' g : Heap} {L' : Addr} {m : Str → Option Value} (hg : ∀ b o, h.get? b = some o → b ∉ T → g.get? b = some o) (F : Fr g L' h' m) : Keep T h h' :=
  fun b o e nm => F.keep _ _ (hg b o e nm)
theorem keep_less {T T' : List Addr} {h h' g : Heap} {L' : Addr} {m : Str → Option Value} (hg : ∀ b o, h.get? b = some o → b ∉ T → g.get? b = some o) (F : Fr g L' h' m)
    (hs : ∀ b ∈ T, b ∈ T' ∨ ∃ o, h.get? b = some o ∧ h'.get? b = some o) : Keep T' h h' := fun b o e nm => by
  by_cases hb : b ∈ T
  · rcases hs b hb with q | ⟨o', e1, e2⟩
    · exact absurd q nm
    · rw [e] at e1; cases e1; exact e2
  · exact F.keep _ _ (hg b o e hb)
theorem keep_led {T' : List Addr} {h h' g h₀ : Heap} {L L' : Addr} {m : Str → Option Value} {old new : List (Addr × Obj)} (hg : ∀ b o, h.get? b = some o → b ∉ old.map (·.1) → g.get? b = some o) (F : Fr g L' h' m)
    (N : News h₀ L h old) (N' : News g L' h' new) (hs : ∀ p ∈ old, p.1 ∈ T' ∨ p ∈ new) : Keep T' h h' :=
  keep_less hg F fun b hb => by
    obtain ⟨p, hp, rfl⟩ := List.mem_map.mp hb
    rcases hs p hp with q | q
    · exact .inl q
    · exact .inr ⟨p.2, (N p hp).1, (N' p q).1⟩
theorem getD_mem {ns : List Int} {i : Nat} (h : i < ns.length) : ns.getD i 0 ∈ ns := by
  rw [List.getD_eq_getElem?_getD, List.getElem?_eq_getElem h]
  exact List.getElem_mem h
theorem Keep.fr {T : List Addr} {h h' h₀ : Heap} {L : Addr} {m : Str → Option Value} {news : List (Addr × Obj)} (k : Keep T h h') (F : Fr h₀ L h m) (N : News h₀ L h news) (hm : ∀ a ∈ T, ∃ o, (a, o) ∈ news) : Fr h₀ L h' m := by
  obtain ⟨oL, es, ep, hL, r⟩ := F.ns
  refine ⟨⟨oL, es, ep, k _ _ hL fun q => ?_, r⟩, fun b o e => k _ _ (F.keep b o e) fun q => ?_, F.above⟩
  · obtain ⟨o, hq⟩ := hm _ q
    exact (N _ hq).2.1 rfl
  · obtain ⟨o', hq⟩ := hm _ q
    have := (N _ hq).2.2
    rw [e] at this; cases this
theorem Keep.news1 {h h' h₀ : Heap} {L d : Addr} {news : List (Addr × Obj)} {o o' : Obj} {g : Obj → List (Addr × Obj)} (k : Keep [d] h h') (N : News h₀ L h news) (U : UpdF d o news g) (e : h'.get? d = some o') : News h₀ L h' (g o') := by
  obtain ⟨pre, post, rfl, hg, h1, h2⟩ := U.split
  rw [hg]
  intro p hp
  rcases List.mem_append.mp hp with q | q
  · have n := N p (List.mem_append_left _ q)
    exact ⟨k _ _ n.1 (by simpa using h1 p q), n.2⟩
  · rcases List.mem_cons.mp q with rfl | q
    · exact ⟨e, (N (d, o) (List.mem_append_right _ (.head _))).2⟩
    · have n := N p (List.mem_append_right _ (.tail _ q))
      exact ⟨k _ _ n.1 (by simpa using h2 p q), n.2⟩
theorem UpdF.mem {d : Addr} {o : Obj} {news : List (Addr × Obj)} {g : Obj → List (Addr × Obj)} (U : UpdF d o news g) : (d, o) ∈ news := by
  obtain ⟨pre, post, rfl, _⟩ := U.split
  exact List.mem_append_right _ (.head _)
theorem Keep.fr1 {h h' h₀ : Heap} {L d : Addr} {m : Str → Option Value} {news : List (Addr × Obj)} {o : Obj} {g : Obj → List (Addr × Obj)} (k : Keep [d] h h') (F : Fr h₀ L h m) (N : News h₀ L h news) (U : UpdF d o news g) : Fr h₀ L h' m :=
  k.fr F N fun a ha => by
    obtain rfl := List.mem_singleton.mp ha
    exact ⟨o, UpdF.mem U⟩
theorem fmod_b (a : Int) {n : Int} (h : 0 < n) : 0 ≤ Int.fmod a n ∧ Int.fmod a n < n := ⟨fmod_lo a h, fmod_hi a h⟩
theorem fdiv_b {a n : Int} (ha : 0 ≤ a) (h : 0 < n) : 0 ≤ Int.fdiv a n ∧ Int.fdiv a n ≤ a := by
  rw [Int.fdiv_eq_ediv_of_nonneg a (by omega)]
  exact ⟨Int.ediv_nonneg ha (by omega), Int.ediv_le_self n ha⟩

theorem bInts_inj {a b : Array UInt8} (h : KBw.bInts a = KBw.bInts b) : a = b := by
  have key : ∀ x y : List UInt8, (x.map fun c => ((c.toNat : Nat) : Int)) = (y.map fun c => ((c.toNat : Nat) : Int)) → x = y := by
    intro x
    induction x with
    | nil => intro y e; cases y with
      | nil => rfl
      | cons _ _ => cases e
    | cons c x ih => intro y e; cases y with
      | nil => cases e
      | cons c' y =>
        rw [List.map_cons, List.map_cons, List.cons.injEq] at e
        have h1 : c = c' := UInt8.toNat_inj.mp (by omega)
        rw [h1, ih y e.2]
  exact Array.toList_inj.mp (key _ _ h)
theorem picked_row {hb : Array UInt8} {ns : List Int} {i j : Nat} {lo hi : Int} (hB : KBw.bInts hb = ns) (h1 : lo = (i : Nat)) (h2 : hi = ((i + j : Nat) : Int)) (h3 : i + j ≤ ns.length) :
    KBw.bInts (KBy.picked hb (some lo) (some hi)) = (ns.drop i).take j := by
  rw [KBc.ints_picked hB, h1, h2]
  simp only [Option.elim]
  rw [clipAt_nat, clipAt_nat, Nat.min_eq_left (show i ≤ ns.length by omega), Nat.min_eq_left h3, Nat.add_sub_cancel_left]
theorem put_plain {fs : List Int} {room : Int} {n : Nat} (h : (n : Int) ≤ room) : (if room - (n : Int) < (fs.length : Int) then room - (n : Int) else (fs.length : Int)) = ((fs.take (room.toNat - n)).length : Int) ∧
    fs.take (clipAt fs.length (if room - (n : Int) < (fs.length : Int) then room - (n : Int) else (fs.length : Int))) = fs.take (room.toNat - n) := by
  have hx : (if room - (n : Int) < (fs.length : Int) then room - (n : Int) else (fs.length : Int)) = ((min (room.toNat - n) fs.length : Nat) : Int) := by
    split <;> omega
  rw [hx, clipAt_nat, List.length_take]
  refine ⟨rfl, ?_⟩
  rw [List.take_eq_take_iff]
  omega
theorem drop_row {hb : Array UInt8} {ns : List Int} {i : Nat} {lo : Int} (hB : KBw.bInts hb = ns) (h1 : lo = (i : Nat)) (h3 : i ≤ ns.length) :
    KBw.bInts (KBy.picked hb (some lo) none) = ns.drop i := by
  rw [KBc.ints_picked hB, h1]
  simp only [Option.elim]
  rw [clipAt_nat, Nat.min_eq_left h3]
  exact List.take_of_length_le (by simp)
theorem eq_bytes_of {a b : Array UInt8} {ks : List Int} (h1 : KBw.bInts a = ks) (h2 : KBw.bInts b = ks) : (a.toList == b.toList) = true := by
  rw [bInts_inj (h1.trans h2.symm)]; exact beq_self_eq_true _
structure Stuck (P : Prop) : Prop where
  out : P
theorem stuck {P : Prop} (h : Stuck P) : P := h.out
end Mine

namespace Mine
theorem top_off_S0C : True := by
  w_top off
  trivial
theorem code_defCS {prog : Program} {w : World} {A A₀ : Around} {s : Shared} {K : Frag} {L : Addr} {h₀ base : Heap} {m mg mb : Str → Option Value} {news : List (Addr × Obj)} {p : Program} {loose : List Str} {mean : ExcName → Option Value}
    {env : Env} {outer : List Env} {R : Result → Shared → Prop} {name qual : Str} {params : Arguments} {body : List Stmt} {scope : Scope} {dV kV doc pm cdv ct oc : Value} {an od : Option Addr} {osl : Array (Option Value)} {f : Addr} {args : Args} {binds : List (Str × Value)}
    (B : Below A₀ base outer h₀) (F : Fr h₀ L s.heap m) (X₀ : K.In h₀) (N : News h₀ L s.heap news) (T : Top p loose mean mg mb h₀) (hA : A.frames = some (env :: outer)) (hf : env.frame = some L) (hke : env.scope.kind = .function)
    (ho : K.lookup f = some ⟨oc, od, .func (fnOf name qual params body scope dV kV doc pm an cdv ct), osl⟩) (hcd : codeIn K cdv qual = true) (hroom : A.depth < recursionLimit)
    (hbind : BindsTo s (fnOf name qual params body scope dV kV doc pm an cdv ct) args binds) (hkind : (binds.all fun y => scope.names.lookup y.1 == some .local || scope.names.lookup y.1 == some .cell) = true)
    (hnd : ((cellsFrom 0 scope.names []).map (·.1)).Nodup)
    (h : ∀ g L' h₁ tk cells, (∀ b o, s.heap.get? b = some o → b ∉ news.map (·.1) → g.get? b = some o) → L' = s.heap.objs.size → Fr h₀ L g m → Fr g L' h₁ (bindL (envOfC qual scope L' f cdv).kindOf binds fun _ => none) → News g L' h₁ (cells ++ news) →
      CellsAre (bindC (envOfC qual scope L' f cdv).kindOf binds fun _ => none) (cellsFrom (L' + 1) scope.names []) cells → Below A base (env :: outer) g → K.In g → Top p loose mean mg mb g → (∀ p ∈ news, p.1 < L') →
      wpAny (model prog w) (A.deeper (envOfC qual scope L' f cdv)) (execs body (envOfC qual scope L' f cdv))
        (fun fl s' => R (.ok (.ret (match fl with | .ret v => v | _ => .none))) s')
        (fun e s' => wpAny (model prog w) (A.deeper (envOfC qual scope L' f cdv)) (leaving (envOfC qual scope L' f cdv) e) (fun _ s'' => R (.error e) s'') (fun e' s'' => R (.error e') s'') s')
        { s with heap := h₁, toks := tk })
    (hco : scope.isCoroutine = false) (hgen : scope.isGenerator = false) (hk : scope.kind = .function) : codeAny (model prog w) A (.call (.ref f) args) R s := by
  obtain ⟨FG, BG, st, _⟩ := groundX (R := fun _ _ => True) B F N hA hf hke
  refine codeAny_call_function (fd := fnOf name qual params body scope dV kV doc pm an cdv ct) hroom ((X₀.keeps F.keep) _ _ ho) rfl hco hgen rfl (codeRec_of (X₀.keeps F.keep) hcd) (hbind _ _ _ _ ?_)
  refine wpAny_newFunctionEnv_cells hk (kindsX hkind _) fun env' he s' x => ?_
  subst he
  refine ⟨(T.nolimit.keeps F.keep).keeps x.toInCall.keep, codeAny_func ?_⟩
  obtain ⟨h₁, tk, rfl, _⟩ := x.done
  have hk₁ := x.toInCall.keep
  obtain ⟨cells, NC, Y⟩ := Cl.news (h₀ := s.heap) (Nat.le_refl _) fun n c hm => ⟨x.cell n c (lookup_of_mem_nodup (cellsFrom_names scope.names 0 (s.heap.objs.size + 1) [] [] rfl ▸ hnd) hm), x.above n c hm⟩
  refine h (hideAll s.heap (news.map (·.1))) s.heap.objs.size h₁ tk cells (fun b o e nm => hideAll_get _ e nm) rfl FG ⟨x.toInCall.ns, fun b o e => hk₁ b o (of_hideAll _ e), Nat.le_of_eq (hideAll_size _ _)⟩ (fun p hp => ?_) Y BG (by exact X₀.keeps st) (by exact T.keeps st) (fun p hp => Heap.lt_size (N p hp).1)
  rcases List.mem_append.mp hp with hp | hp
  · refine ⟨(NC p hp).1, (NC p hp).2.1, ?_⟩
    cases q : (hideAll s.heap (news.map (·.1))).get? p.1 with
    | none => rfl
    | some o => have := of_hideAll _ q; rw [(NC p hp).2.2] at this; cases this
  · exact ⟨hk₁ _ _ (N p hp).1, Nat.ne_of_lt (Heap.lt_size (N p hp).1), hideAll_none _ (List.mem_map_of_mem hp)⟩
theorem fr_congr {h₀ : Heap} {L : Addr} {h : Heap} {m m' : Str → Option Value} (F : Fr h₀ L h m) (e : m = m') : Fr h₀ L h m' := e ▸ F
theorem bindL_local {kind : Str → Option NameKind} {n : Str} {v : Value} {r : List (Str × Value)} {m : Str → Option Value} (h : kind n = some .local) : bindL kind ((n, v) :: r) m = bindL kind r (fun y => if y = n then some v else m y) := by
  rw [bindL, if_pos h]
theorem bindL_nil {kind : Str → Option NameKind} {m : Str → Option Value} : bindL kind [] m = m := rfl
theorem bindL_cell {kind : Str → Option NameKind} {n : Str} {v : Value} {r : List (Str × Value)} {m : Str → Option Value} (h : kind n = some .cell) : bindL kind ((n, v) :: r) m = bindL kind r m := by
  rw [bindL, if_neg (by rw [h]; decide)]
end Mine

namespace Mine
theorem top_off_S1 : True := by
  w_top off
  trivial
local macro_rules | `(tactic| k_room) => `(tactic| ((try simp only [depth_mark, depth_under_make, depth_under_kw, depth_in1, depth_deeper, depth_caller]); (try dsimp only); omega))

theorem sq_ok (a X : Int) : IntMulOk ([a, X.fmod 2147483647].getD (Int.toNat 1) 0) ([a, X.fmod 2147483647].getD (Int.toNat 1) 0) := by
  show IntMulOk (X.fmod 2147483647) (X.fmod 2147483647)
  have h1 := fmod_lo X (n := 2147483647) (by decide)
  have h2 := fmod_hi X (n := 2147483647) (by decide)
  exact IntMulOk.of_right (intBits_le_64 (by omega) (by omega))
local macro_rules | `(tactic| mul_fits) => `(tactic| exact sq_ok _ _)

theorem take_spec {w : World} {A₀ : Around} {s : Shared} {base h₀ : Heap} {outer : List Env} {env : Env} {L : Addr} {m mg mb : Str → Option Value} {mean : ExcName → Option Value} {loose : List Str} {d u : Nat} {gs : Option (List Code)}
  {src : Addr} {a b top : Int} {ta tb tt : Tok} {n : Nat} {R : Result → Shared → Prop}
  (B : Below A₀ base outer h₀) (F : Fr h₀ L s.heap m) (X₀ : (hd.heap_39 w.params).In h₀) (T : Top topProg loose mean mg mb h₀)
  (N : News h₀ L s.heap [(src, listOf #[.int a ta, .int b tb] n)])
  (hf : env.frame = some L) (hke : env.scope.kind = .function) (hdep : d + 40 < recursionLimit) (hun : u + 400 < cLine)
  (ha : 0 ≤ a) (hb0 : 0 ≤ b) (hb1 : b < 2147483647) (ht0 : 1 ≤ top) (ht1 : top ≤ 12)
  (k : ∀ h' tk r t a' b' ta' tb' n', Keep [src] s.heap h' → h'.get? src = some (listOf #[.int a' ta', .int b' tb'] n') → 0 ≤ r → r < top → 0 ≤ a' → a' ≤ a → 0 ≤ b' → b' < 2147483647 → R (.ok (.ret (.int r t))) {s with heap := h', toks := tk}) :
  codeAny (model Challenge.rw_on0333_01.row.prog w) ⟨none, d, some (env :: outer), gs, u⟩ (.call (.ref 116) ⟨[.ref src, .int top tt], []⟩) R s := by
  revert X₀; k_fill; intro X₀
  refine' code_defS B F X₀ N T ?kA hf hke ?k6 ?k7 ?k8 ?k9 ?kB ?_ ?c2 ?c3 ?c4 ?c5 (binds := [(Str.ofString "source", .ref src), (Str.ofString "top", .int top tt)])
  case kA => exact rfl
  case k6 => k_is
  case k7 => k_is
  case k8 => k_room
  case k9 => exact BindsTo.of_eq rfl
  case kB => exact locs rfl
  case c2 => exact rfl
  case c3 => exact rfl
  case c4 => exact rfl
  case c5 => decide
  intro g L' h' hg FG F' N' B' X' T'
  clear FG
  (try dsimp only)
  (try k_fold)
  k_steps
  all_goals (try dsimp only)
  all_goals (try k_unfold)
  · rename Fr g L' _ _ => F'
    rename News g L' _ _ => N'
    have h1 := fmod_b a (n := top) (by omega)
    have h2 := fdiv_b (n := top) ha (by omega)
    exact k _ _ (Int.fmod a top) _ (Int.fdiv a top) b _ _ _ (keep_of hg F') (N' _ (.head _)).1 h1.1 h1.2 h2.1 h2.2 hb0 hb1
  · rename Fr g L' _ _ => F'
    rename News g L' _ _ => N'
    have h1 := fmod_b (b * 39373 + 7) (n := 2147483647) (by omega)
    have h2 := fmod_b (Int.fdiv (Int.fmod (Int.fmod (b * 39373 + 7) 2147483647 * Int.fmod (b * 39373 + 7) 2147483647) 2147483629) 32) (n := top) (by omega)
    exact k _ _ _ _ a (Int.fmod (b * 39373 + 7) 2147483647) _ _ _ (keep_of hg F') (N' _ (.head _)).1 h2.1 h2.2 ha (Int.le_refl a) h1.1 h1.2

theorem take_call {w : World} {A₀ : Around} {s : Shared} {base h₀ : Heap} {outer : List Env} {env : Env} {L : Addr} {m mg mb : Str → Option Value} {mean : ExcName → Option Value} {loose : List Str} {d u : Nat} {gs : Option (List Code)}
  {src : Addr} {a b top : Int} {ta tb tt : Tok} {n : Nat} {news : List (Addr × Obj)} {g : Obj → List (Addr × Obj)} {Q : Value → Shared → Prop} {E : Value → Shared → Prop}
  (B : Below A₀ base outer h₀) (F : Fr h₀ L s.heap m) (X₀ : (hd.heap_39 w.params).In h₀) (T : Top topProg loose mean mg mb h₀)
  (N : News h₀ L s.heap news) (U : UpdF src (listOf #[.int a ta, .int b tb] n) news g)
  (hf : env.frame = some L) (hke : env.scope.kind = .function) (hdep : d + 40 < recursionLimit) (hun : u + 400 < cLine)
  (ha : 0 ≤ a) (hb0 : 0 ≤ b) (hb1 : b < 2147483647) (ht0 : 1 ≤ top) (ht1 : top ≤ 12)
  (k : ∀ h' tk r t a' b' ta' tb' n', Fr h₀ L h' m → News h₀ L h' (g (listOf #[.int a' ta', .int b' tb'] n')) → 0 ≤ r → r < top → 0 ≤ a' → a' ≤ a → 0 ≤ b' → b' < 2147483647 → Q (.int r t) {s with heap := h', toks := tk}) :
  wpAny (model Challenge.rw_on0333_01.row.prog w) ⟨none, d, some (env :: outer), gs, u⟩ (call (.ref 116) [.ref src, .int top tt]) Q E s :=
  wpAny_call (take_spec B F X₀ T (fun p hp => N p (by rw [List.mem_singleton.mp hp]; exact UpdF.mem U)) hf hke hdep hun ha hb0 hb1 ht0 ht1
    fun h' tk r t a' b' ta' tb' n' kp e r0 r1 a0 a1 b0 b1 => k h' tk r t a' b' ta' tb' n' (kp.fr1 F N U) (kp.news1 N U e) r0 r1 a0 a1 b0 b1)
end Mine

namespace Mine
theorem top_off_S2 : True := by
  w_top off
  trivial
local macro_rules | `(tactic| k_room) => `(tactic| ((try simp only [depth_mark, depth_under_make, depth_under_kw, depth_in1, depth_deeper, depth_caller]); (try dsimp only); omega))
local macro_rules | `(tactic| walk_at "call ref") => `(tactic| (k_here; (with_reducible show wpAny _ _ (PySem.call (Value.ref 116) _) _ _ _); k_dflt (refine' take_call ?B ?F ?X ?T ?N ?U ?hf ?hke ?hd ?hu ?ha ?hb0 ?hb1 ?t0 ?t1 ?_; (case B => k_asm); (case F => k_asm); (case X => k_asm); (case T => k_asm); (case N => k_asm); (case U => k_updF); (case hf => exact rfl); (case hke => exact rfl); (case hd => k_room); (case hu => (dsimp only; omega)); (case ha => omega); (case hb0 => omega); (case hb1 => omega); (case t0 => omega); (case t1 => omega); k_whole); intro h' tk' r' t' a' b' ta' tb' n' F' N' r0' r1' a0' a1' b0' b1'; (try k_sweep)))

theorem one_spec {w : World} {A₀ : Around} {s : Shared} {base h₀ : Heap} {outer : List Env} {env : Env} {L : Addr} {m mg mb : Str → Option Value} {mean : ExcName → Option Value} {loose : List Str} {d u : Nat} {gs : Option (List Code)}
  {src th : Addr} {a b : Int} {ta tb : Tok} {n c : Nat} {vs : List Value} {ns : List Int} {R : Result → Shared → Prop}
  (B : Below A₀ base outer h₀) (F : Fr h₀ L s.heap m) (X₀ : (hd.heap_39 w.params).In h₀) (T : Top topProg loose mean mg mb h₀)
  (N : News h₀ L s.heap [(src, listOf #[.int a ta, .int b tb] n), (th, listOf vs.toArray c)]) (hst : @Ne Nat src th)
  (hI : IntsAre vs ns) (hn0 : 1 ≤ ns.length) (hn1 : ns.length ≤ 12)
  (hf : env.frame = some L) (hke : env.scope.kind = .function) (hdep : d + 50 < recursionLimit) (hun : u + 500 < cLine)
  (ha : 0 ≤ a) (hb0 : 0 ≤ b) (hb1 : b < 2147483647)
  (k : ∀ h' tk x t a' b' ta' tb' n', Keep [src] s.heap h' → h'.get? src = some (listOf #[.int a' ta', .int b' tb'] n') → x ∈ ns → 0 ≤ a' → a' ≤ a → 0 ≤ b' → b' < 2147483647 → R (.ok (.ret (.int x t))) {s with heap := h', toks := tk}) :
  codeAny (model Challenge.rw_on0333_01.row.prog w) ⟨none, d, some (env :: outer), gs, u⟩ (.call (.ref 123) ⟨[.ref src, .ref th], []⟩) R s := by
  revert X₀; k_fill; intro X₀
  refine' code_defS B F X₀ N T ?kA hf hke ?k6 ?k7 ?k8 ?k9 ?kB ?_ ?c2 ?c3 ?c4 ?c5 (binds := [(Str.ofString "source", .ref src), (Str.ofString "things", .ref th)])
  case kA => exact rfl
  case k6 => k_is
  case k7 => k_is
  case k8 => k_room
  case k9 => exact BindsTo.of_eq rfl
  case kB => exact locs rfl
  case c2 => exact rfl
  case c3 => exact rfl
  case c4 => exact rfl
  case c5 => decide
  intro g L' h' hg FG F' N' B' X' T'
  clear FG
  (try dsimp only)
  (try k_fold)
  k_steps
  all_goals (try dsimp only)
  all_goals (try k_unfold)
  rename Fr g L' _ _ => F'
  rename News g L' _ _ => N'
  refine k _ _ _ _ _ _ _ _ _ (keep_less hg F' fun b hb => ?_) (N' _ (.head _)).1 (getD_mem (by omega)) ?_ ?_ ?_ ?_
  · simp only [List.map_cons, List.map_nil, List.mem_cons, List.not_mem_nil, or_false] at hb
    rcases hb with rfl | rfl
    · exact .inl (.head _)
    · exact .inr ⟨_, (N _ (.tail _ (.head _))).1, (N' _ (.tail _ (.head _))).1⟩
  all_goals assumption

theorem one_call {w : World} {A₀ : Around} {s : Shared} {base h₀ : Heap} {outer : List Env} {env : Env} {L : Addr} {m mg mb : Str → Option Value} {mean : ExcName → Option Value} {loose : List Str} {d u : Nat} {gs : Option (List Code)}
  {src th : Addr} {a b : Int} {ta tb : Tok} {n c : Nat} {news : List (Addr × Obj)} {g : Obj → List (Addr × Obj)} {vs : List Value} {ns : List Int} {Q : Value → Shared → Prop} {E : Value → Shared → Prop}
  (B : Below A₀ base outer h₀) (F : Fr h₀ L s.heap m) (X₀ : (hd.heap_39 w.params).In h₀) (T : Top topProg loose mean mg mb h₀)
  (N : News h₀ L s.heap news) (hth : (th, listOf vs.toArray c) ∈ news) (U : UpdF src (listOf #[.int a ta, .int b tb] n) news g) (hst : @Ne Nat src th)
  (hI : IntsAre vs ns) (hn0 : 1 ≤ ns.length) (hn1 : ns.length ≤ 12)
  (hf : env.frame = some L) (hke : env.scope.kind = .function) (hdep : d + 50 < recursionLimit) (hun : u + 500 < cLine)
  (ha : 0 ≤ a) (hb0 : 0 ≤ b) (hb1 : b < 2147483647)
  (k : ∀ h' tk x t a' b' ta' tb' n', Fr h₀ L h' m → News h₀ L h' (g (listOf #[.int a' ta', .int b' tb'] n')) → x ∈ ns → 0 ≤ a' → a' ≤ a → 0 ≤ b' → b' < 2147483647 → Q (.int x t) {s with heap := h', toks := tk}) :
  wpAny (model Challenge.rw_on0333_01.row.prog w) ⟨none, d, some (env :: outer), gs, u⟩ (call (.ref 123) [.ref src, .ref th]) Q E s :=
  wpAny_call (one_spec B F X₀ T (fun p hp => N p (by
      rcases List.mem_cons.mp hp with rfl | hp
      · exact UpdF.mem U
      · rw [List.mem_singleton.mp hp]; exact hth)) hst hI hn0 hn1 hf hke hdep hun ha hb0 hb1
    fun h' tk x t a' b' ta' tb' n' kp e r0 a0 a1 b0 b1 => k h' tk x t a' b' ta' tb' n' (kp.fr1 F N U) (kp.news1 N U e) r0 a0 a1 b0 b1)
end Mine

namespace Mine
theorem top_off_S3 : True := by
  w_top off
  trivial
local macro_rules | `(tactic| k_room) => `(tactic| ((try simp only [depth_mark, depth_under_make, depth_under_kw, depth_in1, depth_deeper, depth_caller]); (try dsimp only); omega))
local macro_rules | `(tactic| k_units) => `(tactic| ((try simp only [units_in1, units_deeper, Around.mark_units]); (try dsimp only); omega))

abbrev qDict (h1 h2 : Int) (k1 k2 : Tok) (room : Int) (tr : Tok) (hb : Array UInt8) (tb : Tok) : Obj :=
  dictOf [⟨h1, .str (Str.ofString "room") k1, .int room tr⟩, ⟨h2, .str (Str.ofString "held") k2, .bytes hb tb⟩] 2

theorem stands_spec {w : World} {A₀ : Around} {s : Shared} {base h₀ : Heap} {outer : List Env} {env : Env} {L : Addr} {m mg mb : Str → Option Value} {mean : ExcName → Option Value} {loose : List Str} {d u : Nat} {gs : Option (List Code)}
  {q qd rw : Addr} {room : Int} {h1 h2 : Int} {k1 k2 tr tb t3 : Tok} {hb : Array UInt8} {c : Nat} {vs : List Value} {ns : List Int} {R : Result → Shared → Prop}
  (B : Below A₀ base outer h₀) (F : Fr h₀ L s.heap m) (X₀ : (hd.heap_39 w.params).In h₀) (T : Top topProg loose mean mg mb h₀)
  (N : News h₀ L s.heap [(q, instObj 98 qd), (qd, qDict h1 h2 k1 k2 room tr hb tb), (rw, listOf vs.toArray c)]) (hd1 : @Ne Nat q qd) (hd2 : @Ne Nat q rw) (hd3 : @Ne Nat qd rw)
  (hI : IntsAre vs ns) (hB : KBw.bInts hb = ns) (hr : KBa.In ns) (hn1 : ns.length ≤ 100) (hro : 0 ≤ room) (hro' : room ≤ 100)
  (hf : env.frame = some L) (hke : env.scope.kind = .function) (hdep : d + 50 < recursionLimit) (hun : u + 500 < cLine)
  (k : ∀ h' tk, Keep [] s.heap h' → R (.ok (.ret (.bool true))) {s with heap := h', toks := tk}) :
  codeAny (model Challenge.rw_on0333_01.row.prog w) ⟨none, d, some (env :: outer), gs, u⟩ (.call (.ref 137) ⟨[.ref q, .ref rw, .int room t3], []⟩) R s := by
  revert X₀; k_fill; intro X₀
  refine' code_defS B F X₀ N T ?kA hf hke ?k6 ?k7 ?k8 ?k9 ?kB ?_ ?c2 ?c3 ?c4 ?c5 (binds := [(Str.ofString "queue", .ref q), (Str.ofString "row", .ref rw), (Str.ofString "room", .int room t3)])
  case kA => exact rfl
  case k6 => k_is
  case k7 => k_is
  case k8 => k_room
  case k9 => exact BindsTo.of_eq rfl
  case kB => exact locs rfl
  case c2 => exact rfl
  case c3 => exact rfl
  case c4 => exact rfl
  case c5 => decide
  intro g L' h' hg FG F' N' B' X' T'
  clear FG
  (try dsimp only)
  (try k_fold)
  k_steps
  all_goals (try dsimp only)
  all_goals (try k_unfold)
  rename Fr g L' _ _ => F'
  rename News g L' _ _ => N'
  have hh : ((KBy.picked hb (some 0) (some (0 + (ns.length : Int)))).toList == (byteArr ns).toList) = true :=
    eq_bytes_of (picked_row (i := 0) (j := ns.length) hB rfl (by omega) (by omega)) (by rw [KBa.ints_make hr, List.drop_zero, List.take_length])
  rw [hh]
  exact k _ _ (keep_led hg F' N N' (List.forall_mem_cons.mpr ⟨.inr (by k_mem), List.forall_mem_cons.mpr ⟨.inr (by k_mem), List.forall_mem_cons.mpr ⟨.inr (by k_mem), List.forall_mem_nil _⟩⟩⟩))

theorem keep0 {h h' h₀ : Heap} {L : Addr} {m : Str → Option Value} {news : List (Addr × Obj)} (k : Keep [] h h') (F : Fr h₀ L h m) (N : News h₀ L h news) : Fr h₀ L h' m ∧ News h₀ L h' news :=
  ⟨k.fr F N (fun a ha => nomatch ha), fun p hp => ⟨k _ _ (N p hp).1 (fun q => nomatch q), (N p hp).2⟩⟩

theorem stands_call {w : World} {A₀ : Around} {s : Shared} {base h₀ : Heap} {outer : List Env} {env : Env} {L : Addr} {m mg mb : Str → Option Value} {mean : ExcName → Option Value} {loose : List Str} {d u : Nat} {gs : Option (List Code)}
  {q qd rw : Addr} {room : Int} {h1 h2 : Int} {k1 k2 tr tb t3 : Tok} {hb : Array UInt8} {c : Nat} {vs : List Value} {ns : List Int} {news : List (Addr × Obj)} {Q : Value → Shared → Prop} {E : Value → Shared → Prop}
  (B : Below A₀ base outer h₀) (F : Fr h₀ L s.heap m) (X₀ : (hd.heap_39 w.params).In h₀) (T : Top topProg loose mean mg mb h₀)
  (N : News h₀ L s.heap news) (m1 : (q, instObj 98 qd) ∈ news) (m2 : (qd, qDict h1 h2 k1 k2 room tr hb tb) ∈ news) (m3 : (rw, listOf vs.toArray c) ∈ news) (hd1 : @Ne Nat q qd) (hd2 : @Ne Nat q rw) (hd3 : @Ne Nat qd rw)
  (hI : IntsAre vs ns) (hB : KBw.bInts hb = ns) (hr : KBa.In ns) (hn1 : ns.length ≤ 100) (hro : 0 ≤ room) (hro' : room ≤ 100)
  (hf : env.frame = some L) (hke : env.scope.kind = .function) (hdep : d + 50 < recursionLimit) (hun : u + 500 < cLine)
  (k : ∀ h' tk, Fr h₀ L h' m → News h₀ L h' news → Q (.bool true) {s with heap := h', toks := tk}) :
  wpAny (model Challenge.rw_on0333_01.row.prog w) ⟨none, d, some (env :: outer), gs, u⟩ (call (.ref 137) [.ref q, .ref rw, .int room t3]) Q E s :=
  wpAny_call (stands_spec B F X₀ T (fun p hp => N p (by
      rcases List.mem_cons.mp hp with rfl | hp
      · exact m1
      rcases List.mem_cons.mp hp with rfl | hp
      · exact m2
      · rw [List.mem_singleton.mp hp]; exact m3)) hd1 hd2 hd3 hI hB hr hn1 hro hro' hf hke hdep hun
    fun h' tk kp => k h' tk (keep0 kp F N).1 (keep0 kp F N).2)
end Mine

namespace Mine
theorem top_off_SB : True := by
  w_top off
  trivial
theorem by_dunder : typeLookup (.type "bytes") "__bytes__" = pure (some (.builtin "bytes.__bytes__")) := by rw [typeLookup_type, builtinLookup_eq_fast]; kernel_rfl
section
variable {prog : Program} {w : World} {A : Around} {E : Value → Shared → Prop} {s : Shared}
theorem by_new {b : Array UInt8} {t : Tok} {Q : Value → Shared → Prop} (hQ : Q (.bytes b t) s) :
    codeAny (model prog w) A (.call (.builtin "bytes.__new__") ⟨[.type "bytes", .bytes b t], []⟩) (wants Q E) s := by
  refine codeAny_of_tree ?_
  show wpAny _ A.in1 (do checkBuiltinCall "bytes.__new__" ⟨[.type "bytes", .bytes b t], []⟩; again (.builtin "bytes.__new__" ⟨[.type "bytes", .bytes b t], []⟩)) _ _ s
  refine wpAny_bind (wpAny_of_eq (F.bm_newCall _) (wpAny_pure ⟨plainId_quiet F.bm_plain _, codeAny_builtin F.bm_entry ?_⟩))
  rw [Around.under_plainId F.bm_plain _]
  have hT : s.TypeIs (.bytes b t) "bytes" := PySem.W.typeIs_bytes _ _ _
  unfold Builtin.«bytes.__new__»
  refine wpAny_bind (wpAny_of_eq (a := true) rfl ?_)
  refine bm_if_false rfl ?_
  refine wpAny_bind (wpAny_of_eq F.bm_sub ?_)
  refine bm_if_false rfl ?_
  refine wpAny_bind (wpAny_of_eq (F.bm_bind _) ?_)
  refine wpAny_bind (wpAny_of_eq (a := ()) rfl ?_)
  refine wpAny_bind (wpAny_of_eq (a := ()) rfl ?_)
  refine bm_if_false rfl ?_
  refine wpAny_bind (wpAny_specialOf hT by_dunder ?_)
  refine wpAny_bind (wpAny_rule ?_)
  refine wpAny_bind (wpAny_typeOf hT ?_)
  refine bm_if_true rfl ?_
  show wpAny _ _ (if (Value.type "bytes" == Value.type "bytes") = true then _ else _) _ _ _
  refine bm_if_true (by decide) ?_
  first
    | exact wpAny_pure hQ
    | exact wpAny_bind (wpAny_pure (wpAny_pure hQ))
theorem call_bytes_self {b : Array UInt8} {t : Tok} {Q : Value → Shared → Prop} (hQ : Q (.bytes b t) s) : wpAny (model prog w) A (call (.type "bytes") [.bytes b t]) Q E s := by
  refine callType_codes (Q₁ := fun obj s₁ => s₁.TypeIs obj "bytes" ∧ Q obj s₁) F.bm_called (F.bm_typeCall _) F.entry_object_init
    (by_new ⟨PySem.W.typeIs_bytes _ _ _, hQ⟩) fun obj s₁ h₁ => ?_
  exact ⟨h₁.1, F.args_object_init_2 obj _, object_init_meets F.bm_called.init.lookup F.bm_called.made (by decide) prog w A.in1 _ s₁ ⟨h₁.1, rfl, h₁.2⟩⟩
end
end Mine

namespace Mine
theorem top_off_S4 : True := by
  w_top off
  trivial
local macro_rules | `(tactic| k_room) => `(tactic| ((try simp only [depth_mark, depth_under_make, depth_under_kw, depth_in1, depth_deeper, depth_caller]); (try dsimp only); omega))
local macro_rules | `(tactic| k_units) => `(tactic| ((try simp only [units_in1, units_deeper, Around.mark_units]); (try dsimp only); omega))

local macro_rules | `(tactic| walk_at "call type:bytes") => `(tactic| (k_here; (with_reducible show wpAny _ _ (PySem.call (Value.type "bytes") [Value.bytes _ _]) _ _ _); refine call_bytes_self ?_))

theorem put_spec {w : World} {A₀ : Around} {s : Shared} {base h₀ : Heap} {outer : List Env} {env : Env} {L : Addr} {m mg mb : Str → Option Value} {mean : ExcName → Option Value} {loose : List Str} {d u : Nat} {gs : Option (List Code)}
  {q qd : Addr} {room : Int} {h1 h2 : Int} {k1 k2 tr tb t3 : Tok} {hb ob : Array UInt8} {ns fs : List Int} {R : Result → Shared → Prop}
  (B : Below A₀ base outer h₀) (F : Fr h₀ L s.heap m) (X₀ : (hd.heap_39 w.params).In h₀) (T : Top topProg loose mean mg mb h₀)
  (N : News h₀ L s.heap [(q, instObj 98 qd), (qd, qDict h1 h2 k1 k2 room tr hb tb)]) (hd1 : @Ne Nat q qd)
  (hB : KBw.bInts hb = ns) (hO : KBw.bInts ob = fs) (hn1 : ns.length ≤ 100) (hf1 : fs.length ≤ 100) (hro : (ns.length : Int) ≤ room) (hro' : room ≤ 100)
  (hf : env.frame = some L) (hke : env.scope.kind = .function) (hdep : d + 50 < recursionLimit) (hun : u + 500 < cLine)
  (k : ∀ h' tk t hb' tb', Keep [qd] s.heap h' → h'.get? qd = some (qDict h1 h2 k1 k2 room tr hb' tb') → KBw.bInts hb' = ns ++ fs.take (room.toNat - ns.length) →
    R (.ok (.ret (.int ((fs.take (room.toNat - ns.length)).length : Int) t))) {s with heap := h', toks := tk}) :
  codeAny (model Challenge.rw_on0333_01.row.prog w) ⟨none, d, some (env :: outer), gs, u⟩ (.call (.ref 81) ⟨[.ref q, .bytes ob t3], []⟩) R s := by
  revert X₀; k_fill; intro X₀
  refine' code_defS B F X₀ N T ?kA hf hke ?k6 ?k7 ?k8 ?k9 ?kB ?_ ?c2 ?c3 ?c4 ?c5 (binds := [(Str.ofString "self", .ref q), (Str.ofString "octets", .bytes ob t3)])
  case kA => exact rfl
  case k6 => k_is
  case k7 => k_is
  case k8 => k_room
  case k9 => exact BindsTo.of_eq rfl
  case kB => exact locs rfl
  case c2 => exact rfl
  case c3 => exact rfl
  case c4 => exact rfl
  case c5 => decide
  intro g L' h' hg FG F' N' B' X' T'
  clear FG
  (try dsimp only)
  (try k_fold)
  k_steps
  all_goals (try dsimp only)
  all_goals (try k_unfold)
  rename Fr g L' _ _ => F'
  rename News g L' _ _ => N'
  rename KBw.bInts (hb ++ _) = _ => hA
  have hp := put_plain (fs := fs) hro
  rw [hp.2] at hA
  dsimp only
  generalize (if room - (ns.length : Int) < (fs.length : Int) then room - (ns.length : Int) else (fs.length : Int)) = x at *
  rw [hp.1]
  exact k _ _ _ _ _ (keep_led hg F' N N' (List.forall_mem_cons.mpr ⟨.inr (by k_mem), List.forall_mem_cons.mpr ⟨.inl (.head _), List.forall_mem_nil _⟩⟩)) (N' _ (.tail _ (.head _))).1 hA
end Mine

namespace Mine
theorem top_off_S5 : True := by
  w_top off
  trivial
local macro_rules | `(tactic| k_room) => `(tactic| ((try simp only [depth_mark, depth_under_make, depth_under_kw, depth_in1, depth_deeper, depth_caller]); (try dsimp only); omega))
local macro_rules | `(tactic| k_units) => `(tactic| ((try simp only [units_in1, units_deeper, Around.mark_units]); (try dsimp only); omega))

theorem part_spec {w : World} {A₀ : Around} {s : Shared} {base h₀ : Heap} {outer : List Env} {env : Env} {L : Addr} {m mg mb : Str → Option Value} {mean : ExcName → Option Value} {loose : List Str} {d u : Nat} {gs : Option (List Code)}
  {q qd : Addr} {room near many : Int} {h1 h2 : Int} {k1 k2 tr tb t3 t4 : Tok} {hb : Array UInt8} {ns : List Int} {R : Result → Shared → Prop}
  (B : Below A₀ base outer h₀) (F : Fr h₀ L s.heap m) (X₀ : (hd.heap_39 w.params).In h₀) (T : Top topProg loose mean mg mb h₀)
  (N : News h₀ L s.heap [(q, instObj 98 qd), (qd, qDict h1 h2 k1 k2 room tr hb tb)]) (hd1 : @Ne Nat q qd)
  (hB : KBw.bInts hb = ns) (hn1 : ns.length ≤ 100) (ha : 0 ≤ near) (hm : 0 ≤ many) (ham : near + many ≤ (ns.length : Int))
  (hf : env.frame = some L) (hke : env.scope.kind = .function) (hdep : d + 50 < recursionLimit) (hun : u + 500 < cLine)
  (k : ∀ h' tk t pb, Keep [] s.heap h' → KBw.bInts pb = (ns.drop near.toNat).take many.toNat → R (.ok (.ret (.bytes pb t))) {s with heap := h', toks := tk}) :
  codeAny (model Challenge.rw_on0333_01.row.prog w) ⟨none, d, some (env :: outer), gs, u⟩ (.call (.ref 88) ⟨[.ref q, .int near t3, .int many t4], []⟩) R s := by
  revert X₀; k_fill; intro X₀
  refine' code_defS B F X₀ N T ?kA hf hke ?k6 ?k7 ?k8 ?k9 ?kB ?_ ?c2 ?c3 ?c4 ?c5 (binds := [(Str.ofString "self", .ref q), (Str.ofString "at", .int near t3), (Str.ofString "many", .int many t4)])
  case kA => exact rfl
  case k6 => k_is
  case k7 => k_is
  case k8 => k_room
  case k9 => exact BindsTo.of_eq rfl
  case kB => exact locs rfl
  case c2 => exact rfl
  case c3 => exact rfl
  case c4 => exact rfl
  case c5 => decide
  intro g L' h' hg FG F' N' B' X' T'
  clear FG
  (try dsimp only)
  (try k_fold)
  k_steps
  all_goals (try dsimp only)
  all_goals (try k_unfold)
  rename Fr g L' _ _ => F'
  rename News g L' _ _ => N'
  exact k _ _ _ _ (keep_led hg F' N N' (List.forall_mem_cons.mpr ⟨.inr (by k_mem), List.forall_mem_cons.mpr ⟨.inr (by k_mem), List.forall_mem_nil _⟩⟩)) (picked_row (i := near.toNat) (j := many.toNat) hB (by omega) (by omega) (by omega))

theorem drop_spec {w : World} {A₀ : Around} {s : Shared} {base h₀ : Heap} {outer : List Env} {env : Env} {L : Addr} {m mg mb : Str → Option Value} {mean : ExcName → Option Value} {loose : List Str} {d u : Nat} {gs : Option (List Code)}
  {q qd : Addr} {room many : Int} {h1 h2 : Int} {k1 k2 tr tb t4 : Tok} {hb : Array UInt8} {ns : List Int} {R : Result → Shared → Prop}
  (B : Below A₀ base outer h₀) (F : Fr h₀ L s.heap m) (X₀ : (hd.heap_39 w.params).In h₀) (T : Top topProg loose mean mg mb h₀)
  (N : News h₀ L s.heap [(q, instObj 98 qd), (qd, qDict h1 h2 k1 k2 room tr hb tb)]) (hd1 : @Ne Nat q qd)
  (hB : KBw.bInts hb = ns) (hn1 : ns.length ≤ 100) (hm : 0 ≤ many) (ham : many ≤ (ns.length : Int))
  (hf : env.frame = some L) (hke : env.scope.kind = .function) (hdep : d + 50 < recursionLimit) (hun : u + 500 < cLine)
  (k : ∀ h' tk hb' tb', Keep [qd] s.heap h' → h'.get? qd = some (qDict h1 h2 k1 k2 room tr hb' tb') → KBw.bInts hb' = ns.drop many.toNat → R (.ok (.ret .none)) {s with heap := h', toks := tk}) :
  codeAny (model Challenge.rw_on0333_01.row.prog w) ⟨none, d, some (env :: outer), gs, u⟩ (.call (.ref 95) ⟨[.ref q, .int many t4], []⟩) R s := by
  revert X₀; k_fill; intro X₀
  refine' code_defS B F X₀ N T ?kA hf hke ?k6 ?k7 ?k8 ?k9 ?kB ?_ ?c2 ?c3 ?c4 ?c5 (binds := [(Str.ofString "self", .ref q), (Str.ofString "many", .int many t4)])
  case kA => exact rfl
  case k6 => k_is
  case k7 => k_is
  case k8 => k_room
  case k9 => exact BindsTo.of_eq rfl
  case kB => exact locs rfl
  case c2 => exact rfl
  case c3 => exact rfl
  case c4 => exact rfl
  case c5 => decide
  intro g L' h' hg FG F' N' B' X' T'
  clear FG
  (try dsimp only)
  (try k_fold)
  k_steps
  all_goals (try dsimp only)
  all_goals (try k_unfold)
  rename Fr g L' _ _ => F'
  rename News g L' _ _ => N'
  exact k _ _ _ _ (keep_led hg F' N N' (List.forall_mem_cons.mpr ⟨.inr (by k_mem), List.forall_mem_cons.mpr ⟨.inl (.head _), List.forall_mem_nil _⟩⟩)) (N' _ (.tail _ (.head _))).1 (drop_row (i := many.toNat) hB (by omega) (by omega))
end Mine

namespace Mine
theorem top_off_S6 : True := by
  w_top off
  trivial
local macro_rules | `(tactic| k_room) => `(tactic| ((try simp only [depth_mark, depth_under_make, depth_under_kw, depth_in1, depth_deeper, depth_caller]); (try dsimp only); omega))
local macro_rules | `(tactic| k_units) => `(tactic| ((try simp only [units_in1, units_deeper, Around.mark_units]); (try dsimp only); omega))

theorem big_nn (x : Int) (c : Prop) [Decidable c] : 0 ≤ (if -1 - x > x then -1 - x else x) * (if c then (1 : Int) else 0) := by
  have h : 0 ≤ (if -1 - x > x then -1 - x else x) := by split <;> omega
  refine Int.mul_nonneg h ?_
  split <;> decide
theorem pool_spec {w : World} {A₀ : Around} {s : Shared} {base h₀ : Heap} {outer : List Env} {env : Env} {L : Addr} {m mg mb : Str → Option Value} {mean : ExcName → Option Value} {loose : List Str} {d u : Nat} {gs : Option (List Code)}
  {sc P : Addr} {oP : Obj} {kk : Int} {tk₀ : Tok} {vs : List Value} {ns : List Int} {R : Result → Shared → Prop}
  (B : Below A₀ base outer h₀) (F : Fr h₀ L s.heap m) (X₀ : (hd.heap_39 w.params).In h₀) (T : Top topProg loose mean mg mb h₀)
  (N : News h₀ L s.heap [(P, oP)]) (hL : base.IsList sc vs.toArray) (hI : IntsAre vs ns) (hlay : (PyData.list (List.map PyData.int ns)).layable0 = true) (hlen : ns.length ≤ 63) (hk0 : 0 ≤ kk) (hk1 : kk ≤ 1)
  (hf : env.frame = some L) (hke : env.scope.kind = .function) (hdep : d + 50 < recursionLimit) (hun : u + 500 < cLine)
  (k : ∀ h' tk l a b ta tb n, Keep [] s.heap h' → h'.get? l = some (listOf #[.int a ta, .int b tb] n) → (∀ x o, s.heap.get? x = some o → x ≠ l) → (@LT.lt Nat _ P l) → 0 ≤ a → 0 ≤ b → b < 2147483647 → R (.ok (.ret (.ref l))) {s with heap := h', toks := tk}) :
  codeAny (model Challenge.rw_on0333_01.row.prog w) ⟨none, d, some (env :: outer), gs, u⟩ (.call (.ref 109) ⟨[.ref sc, .int kk tk₀], []⟩) R s := by
  revert X₀; k_fill; intro X₀
  refine' code_defS B F X₀ N T ?kA hf hke ?k6 ?k7 ?k8 ?k9 ?kB ?_ ?c2 ?c3 ?c4 ?c5 (binds := [(Str.ofString "script", .ref sc), (Str.ofString "k", .int kk tk₀)])
  case kA => exact rfl
  case k6 => k_is
  case k7 => k_is
  case k8 => k_room
  case k9 => exact BindsTo.of_eq rfl
  case kB => exact locs rfl
  case c2 => exact rfl
  case c3 => exact rfl
  case c4 => exact rfl
  case c5 => decide
  intro g L' h' hg FG F' N' B' X' T'
  clear FG
  (try dsimp only)
  k_lift B'
  (try k_fold)
  k_steps
  all_goals (try dsimp only)
  all_goals (try k_unfold)
  all_goals
    rename Fr g L' _ _ => F'
    rename News g L' _ _ => N'
    refine k _ _ _ _ _ _ _ _ (keep_led hg F' N N' (fun p hp => .inr (.tail _ hp))) (N' _ (.head _)).1 (fun x o e q => ?_) (by first | assumption | omega) (big_nn _ _) (fmod_lo _ (by decide)) (fmod_hi _ (by decide))
    by_cases hx : x ∈ [(P, oP)].map (·.1)
    · have hx' : x = P := by simpa using hx
      have hlt : @LT.lt Nat _ P _ := (by first | assumption | omega)
      exact Nat.ne_of_lt hlt (hx'.symm.trans q)
    · have h1 := hg x o e hx
      have h2 := (N' _ (.head _)).2.2
      rw [← q] at h2
      exact absurd (h1.symm.trans h2) (by simp)
end Mine

namespace Mine
theorem top_off_SW : True := by
  w_top off
  trivial

theorem put_call {w : World} {A₀ : Around} {s : Shared} {base h₀ : Heap} {outer : List Env} {env : Env} {L : Addr} {m mg mb : Str → Option Value} {mean : ExcName → Option Value} {loose : List Str} {d u : Nat} {gs : Option (List Code)}
  {q qd : Addr} {room : Int} {h1 h2 : Int} {k1 k2 tr tb t3 : Tok} {hb ob : Array UInt8} {ns fs : List Int} {news : List (Addr × Obj)} {Q : Value → Shared → Prop} {E : Value → Shared → Prop} {g : Obj → List (Addr × Obj)}
  (B : Below A₀ base outer h₀) (F : Fr h₀ L s.heap m) (X₀ : (hd.heap_39 w.params).In h₀) (T : Top topProg loose mean mg mb h₀)
  (N : News h₀ L s.heap news) (hq : (q, instObj 98 qd) ∈ news) (U : UpdF qd (qDict h1 h2 k1 k2 room tr hb tb) news g) (hd1 : @Ne Nat q qd)
  (hB : KBw.bInts hb = ns) (hO : KBw.bInts ob = fs) (hn1 : ns.length ≤ 100) (hf1 : fs.length ≤ 100) (hro : (ns.length : Int) ≤ room) (hro' : room ≤ 100)
  (hf : env.frame = some L) (hke : env.scope.kind = .function) (hdep : d + 50 < recursionLimit) (hun : u + 500 < cLine)
  (k : ∀ h' tk t hb' tb', Fr h₀ L h' m → News h₀ L h' (g (qDict h1 h2 k1 k2 room tr hb' tb')) → KBw.bInts hb' = ns ++ fs.take (room - (ns.length : Int)).toNat →
    Q (.int ((fs.take (room - (ns.length : Int)).toNat).length : Int) t) {s with heap := h', toks := tk}) :
  wpAny (model Challenge.rw_on0333_01.row.prog w) ⟨none, d, some (env :: outer), gs, u⟩ (call (.ref 81) [.ref q, .bytes ob t3]) Q E s :=
  wpAny_call (put_spec B F X₀ T (fun p hp => N p (by
      rcases List.mem_cons.mp hp with rfl | hp
      · exact hq
      · rw [List.mem_singleton.mp hp]; exact UpdF.mem U)) hd1 hB hO hn1 hf1 hro hro' hf hke hdep hun
    fun h' tk t hb' tb' kp e b => by
      have ee : room.toNat - ns.length = (room - (ns.length : Int)).toNat := by omega
      rw [ee] at b ⊢
      exact k h' tk t hb' tb' (kp.fr1 F N U) (kp.news1 N U e) b)

theorem part_call {w : World} {A₀ : Around} {s : Shared} {base h₀ : Heap} {outer : List Env} {env : Env} {L : Addr} {m mg mb : Str → Option Value} {mean : ExcName → Option Value} {loose : List Str} {d u : Nat} {gs : Option (List Code)}
  {q qd : Addr} {room near many : Int} {h1 h2 : Int} {k1 k2 tr tb t3 t4 : Tok} {hb : Array UInt8} {ns : List Int} {news : List (Addr × Obj)} {Q : Value → Shared → Prop} {E : Value → Shared → Prop}
  (B : Below A₀ base outer h₀) (F : Fr h₀ L s.heap m) (X₀ : (hd.heap_39 w.params).In h₀) (T : Top topProg loose mean mg mb h₀)
  (N : News h₀ L s.heap news) (hq : (q, instObj 98 qd) ∈ news) (hqd : (qd, qDict h1 h2 k1 k2 room tr hb tb) ∈ news) (hd1 : @Ne Nat q qd)
  (hB : KBw.bInts hb = ns) (hn1 : ns.length ≤ 100) (ha : 0 ≤ near) (hm : 0 ≤ many) (ham : near + many ≤ (ns.length : Int))
  (hf : env.frame = some L) (hke : env.scope.kind = .function) (hdep : d + 50 < recursionLimit) (hun : u + 500 < cLine)
  (k : ∀ h' tk t pb, Fr h₀ L h' m → News h₀ L h' news → KBw.bInts pb = (ns.drop near.toNat).take many.toNat → Q (.bytes pb t) {s with heap := h', toks := tk}) :
  wpAny (model Challenge.rw_on0333_01.row.prog w) ⟨none, d, some (env :: outer), gs, u⟩ (call (.ref 88) [.ref q, .int near t3, .int many t4]) Q E s :=
  wpAny_call (part_spec B F X₀ T (fun p hp => N p (by
      rcases List.mem_cons.mp hp with rfl | hp
      · exact hq
      · rw [List.mem_singleton.mp hp]; exact hqd)) hd1 hB hn1 ha hm ham hf hke hdep hun
    fun h' tk t pb kp e => k h' tk t pb (keep0 kp F N).1 (keep0 kp F N).2 e)

theorem drop_call {w : World} {A₀ : Around} {s : Shared} {base h₀ : Heap} {outer : List Env} {env : Env} {L : Addr} {m mg mb : Str → Option Value} {mean : ExcName → Option Value} {loose : List Str} {d u : Nat} {gs : Option (List Code)}
  {q qd : Addr} {room many : Int} {h1 h2 : Int} {k1 k2 tr tb t4 : Tok} {hb : Array UInt8} {ns : List Int} {news : List (Addr × Obj)} {Q : Value → Shared → Prop} {E : Value → Shared → Prop} {g : Obj → List (Addr × Obj)}
  (B : Below A₀ base outer h₀) (F : Fr h₀ L s.heap m) (X₀ : (hd.heap_39 w.params).In h₀) (T : Top topProg loose mean mg mb h₀)
  (N : News h₀ L s.heap news) (hq : (q, instObj 98 qd) ∈ news) (U : UpdF qd (qDict h1 h2 k1 k2 room tr hb tb) news g) (hd1 : @Ne Nat q qd)
  (hB : KBw.bInts hb = ns) (hn1 : ns.length ≤ 100) (hm : 0 ≤ many) (ham : many ≤ (ns.length : Int))
  (hf : env.frame = some L) (hke : env.scope.kind = .function) (hdep : d + 50 < recursionLimit) (hun : u + 500 < cLine)
  (k : ∀ h' tk hb' tb', Fr h₀ L h' m → News h₀ L h' (g (qDict h1 h2 k1 k2 room tr hb' tb')) → KBw.bInts hb' = ns.drop many.toNat → Q .none {s with heap := h', toks := tk}) :
  wpAny (model Challenge.rw_on0333_01.row.prog w) ⟨none, d, some (env :: outer), gs, u⟩ (call (.ref 95) [.ref q, .int many t4]) Q E s :=
  wpAny_call (drop_spec B F X₀ T (fun p hp => N p (by
      rcases List.mem_cons.mp hp with rfl | hp
      · exact hq
      · rw [List.mem_singleton.mp hp]; exact UpdF.mem U)) hd1 hB hn1 hm ham hf hke hdep hun
    fun h' tk hb' tb' kp e b => k h' tk hb' tb' (kp.fr1 F N U) (kp.news1 N U e) b)

theorem one_callB (lo hi : Int) {w : World} {A₀ : Around} {s : Shared} {base h₀ : Heap} {outer : List Env} {env : Env} {L : Addr} {m mg mb : Str → Option Value} {mean : ExcName → Option Value} {loose : List Str} {d u : Nat} {gs : Option (List Code)}
  {src th : Addr} {a b : Int} {ta tb : Tok} {n c : Nat} {news : List (Addr × Obj)} {Q : Value → Shared → Prop} {E : Value → Shared → Prop} {g : Obj → List (Addr × Obj)} {vs : List Value} {ns : List Int}
  (B : Below A₀ base outer h₀) (F : Fr h₀ L s.heap m) (X₀ : (hd.heap_39 w.params).In h₀) (T : Top topProg loose mean mg mb h₀)
  (N : News h₀ L s.heap news) (hth : (th, listOf vs.toArray c) ∈ news) (U : UpdF src (listOf #[.int a ta, .int b tb] n) news g) (hst : @Ne Nat src th)
  (hI : IntsAre vs ns) (hall : ∀ x ∈ ns, lo ≤ x ∧ x ≤ hi) (hn0 : 1 ≤ ns.length) (hn1 : ns.length ≤ 12)
  (hf : env.frame = some L) (hke : env.scope.kind = .function) (hdep : d + 50 < recursionLimit) (hun : u + 500 < cLine)
  (ha : 0 ≤ a) (hb0 : 0 ≤ b) (hb1 : b < 2147483647)
  (k : ∀ h' tk x t a' b' ta' tb' n', Fr h₀ L h' m → News h₀ L h' (g (listOf #[.int a' ta', .int b' tb'] n')) → x ∈ ns → lo ≤ x → x ≤ hi → 0 ≤ a' → 0 ≤ b' → b' < 2147483647 → Q (.int x t) {s with heap := h', toks := tk}) :
  wpAny (model Challenge.rw_on0333_01.row.prog w) ⟨none, d, some (env :: outer), gs, u⟩ (call (.ref 123) [.ref src, .ref th]) Q E s :=
  one_call B F X₀ T N hth U hst hI hn0 hn1 hf hke hdep hun ha hb0 hb1 fun h' tk x t a' b' ta' tb' n' F' N' hx a0 _ b0 b1 => k h' tk x t a' b' ta' tb' n' F' N' hx (hall x hx).1 (hall x hx).2 a0 b0 b1
end Mine

namespace Mine
theorem top_off_SR1 : True := by
  w_top off
  trivial
open Builtin Builtin.ObjectAttr
section
variable {prog : Program} {w : World} {A : Around} {E : Value → Shared → Prop} {s : Shared} {K : Frag} {x C : Addr} {o : Obj} {name : Str} {v : Value} {cd : ClassData}
theorem exc_store {tk : Tok} {R : Result → Shared → Prop} (X : K.In s.heap) (hx : s.heap.get? x = some o) (hcl : o.cls = .ref C) (hno : notCls o = true) (hdn : o.dict = none)
    (hc : clsIn K C = some cd) (hm : cd.mro.isEmpty = false) (ho : cd.mro.contains (.type "object") = true) (hp : ∀ self, refuseLoop self "__setattr__" cd.mro = pure ()) (ht : findIn K (.ref C) name = some none) (hh : cd.hasDict = true)
    (h : ∀ h' tk d, (∀ b ob, b ≠ x → s.heap.get? b = some ob → h'.get? b = some ob) → h'.get? x = some { o with dict := some d } → R (.ok (.ret .none)) { s with heap := h', toks := tk }) :
    codeAny (model prog w) A (.call (.builtin "object.__setattr__") ⟨[.ref x, .str name tk, v], []⟩) R s := by
  have SF := PySem.F.store_object
  have I : InstAt s.heap x o C none := ⟨hx, hcl, hno, by rw [hdn]; trivial⟩
  have sub : Looks (model prog w) s.heap (isInstance (.ref x) (.type "object")) true := I.type.andThen (looks_mroIn X (by unfold mroIn; rw [hc, Option.bind_some, if_neg (by rw [hm]; decide), ho]))
  refine codeAny_call_builtin SF.slot.plain SF.entry (@check_slot (model prog w) _ _ s "object.__setattr__" "object" "__setattr__" (.ref x) [.str name tk, v] [] _ SF.kind SF.split sub (SF.args (.ref x) (.str name tk) v) ?_)
  have hmr : Looks (model prog w) s.heap (mroOf (.ref C)) cd.mro := (looks_clsIn X hc).andThen .now
  rw [osa_eq, refuse_eq]
  refine wpAny_bind (wpAny_bind (I.type.here (wpAny_bind (hmr.here ?_))))
  rw [hp]
  refine wpAny_pure (wpAny_bind (I.type.here (wpAny_bind ((looks_findIn X ht).here ?_))))
  refine wpAny_bind ?_
  show wpAny _ _ (pure none) _ _ _
  refine wpAny_pure ?_
  dsimp only
  obtain ⟨oc, odi, oda, osl⟩ := o
  dsimp only at hcl hdn
  subst hcl hdn
  refine wpAny_bind (wpAny_pure (wpAny_bind (wpAny_bind (wpAny_loadPart hx (wpAny_bind ((looks_clsIn X hc).here ?_))))))
  rw [hh]
  obtain ⟨hp', g, dr, t, os⟩ := s
  have hxs : x ≠ hp'.objs.size := Nat.ne_of_lt (Heap.lt_size hx)
  have hx₁ : (hp'.push { cls := .type "dict", data := .dict #[] }).get? x = some ⟨.ref C, none, oda, osl⟩ := Heap.get?_push_of_some _ hx
  rw [if_neg (by decide)]
  dsimp only
  rw [if_neg (by simp [typeHasDict])]
  have tail : wpAny (model prog w) A.in1 (do
      let d ← alloc { cls := Value.type "dict", data := Data.dict #[] }
      update x fun o => { cls := o.cls, dict := some d, data := o.data, slots := o.slots }
      dictMade (.ref C) x d) (fun a s' => wpAny (model prog w) A.in1
        (match a with
        | some d => storeInDict d (Value.str name tk) name v
        | none => noDictFor (Value.ref x) (Value.ref C) name (none : Option Value).isSome)
        (fun fin s' => match fin with | .done f => R (.ok f) s' | .again c' => c'.quiet = true ∧ codeAny (model prog w) A c' R s')
        (fun e s' => R (.error e) s') s') (fun e s' => R (.error e) s') ⟨hp', g, dr, t, os⟩ := by
    refine wpAny_bind (wpAny_alloc' ?_)
    refine wpAny_bind (wpAny_update' hx₁ ?_)
    refine wpAny_pure ?_
    have hgd : ((hp'.push { cls := .type "dict", data := .dict #[] }).update x fun o => { cls := o.cls, dict := some hp'.objs.size, data := o.data, slots := o.slots }).get? hp'.objs.size
        = some { cls := .type "dict", data := .dict #[] } :=
      (Heap.get?_update_ne _ _ _ _ hxs.symm).trans (Heap.get?_push_at rfl rfl)
    have hnd : ((hp'.push { cls := .type "dict", data := .dict #[] }).update x fun o => { cls := o.cls, dict := some hp'.objs.size, data := o.data, slots := o.slots }).Ns hp'.objs.size (fun _ => none) :=
      ⟨_, #[], _, hgd, rfl, fun e he => absurd he (by simp), fun _ => rfl⟩
    show wpAny _ _ (storeInDict hp'.objs.size (.str name tk) name v) _ _ _
    unfold storeInDict newKeyGuard
    refine wpAny_bind (wpAny_pure (wpAny_bind (wpAny_nsSet1 (Heap.Ns1.of_empty hnd) fun h' hn' hs => ?_)))
    obtain ⟨oD, esD, epD, hoD, hdD, hcD⟩ := hn'.count (Within.cons name v Within.nil)
    refine wpAny_bind (wpAny_lookBehind hoD (by rw [hdD]; exact pastItsLine_dict (Nat.le_trans hcD (by rw [List.length_cons, List.length_nil, sizeLine_eq]; omega))) ?_)
    refine wpAny_pure (h h' _ hp'.objs.size (fun b ob hbx hb => ?_) ?_)
    · exact (hs.2 b (Nat.ne_of_lt (Heap.lt_size hb))).trans ((Heap.get?_update_ne _ _ _ _ hbx).trans (Heap.get?_push_of_some _ hb))
    · refine (hs.2 x hxs).trans (Heap.get?_update_self _ hx₁ ?_)
      have hfr := (Heap.get?_some_iff.mp hx).2
      cases oda <;> first | rfl | exact hfr
  cases oda <;> first | exact tail | (cases hno)
theorem exc_set {Q : Unit → Shared → Prop} (X : K.In s.heap) (hx : s.heap.get? x = some o) (hcl : o.cls = .ref C) (hno : notCls o = true) (hdn : o.dict = none)
    (hs : findIn K (.ref C) "__setattr__" = some (some (.builtin "object.__setattr__"))) (hc : clsIn K C = some cd) (hm : cd.mro.isEmpty = false) (ho : cd.mro.contains (.type "object") = true) (hp : ∀ self, refuseLoop self "__setattr__" cd.mro = pure ()) (ht : findIn K (.ref C) name = some none) (hh : cd.hasDict = true)
    (h : ∀ h' tk d, (∀ b ob, b ≠ x → s.heap.get? b = some ob → h'.get? b = some ob) → h'.get? x = some { o with dict := some d } → Q () { s with heap := h', toks := tk }) :
    wpAny (model prog w) A (setAttr (.ref x) name v) Q E s :=
  set_plain X (⟨hx, hcl, hno, by rw [hdn]; trivial⟩ : InstAt s.heap x o C none) hs
    (exc_store (s := { s with toks := s.toks + 1 }) X hx hcl hno hdn hc hm ho hp ht hh h)
end
end Mine

namespace Mine
theorem top_off_SR2 : True := by
  w_top off
  trivial
section
variable {prog : Program} {w : World} {A : Around} {h : Heap} {g : Array GenState} {d : Drawn} {t : Nat} {os : OsState}
variable {nm q : Str} {C N : Addr} {bs bm bmB : List Value} {hdct : Bool} {sn : List Str} {sub : List Value} {ab : Bool} {col : Option Bool} {dd : Option Addr} {k0 k1 k2 k3 k5 : Option Value} {B newId initId : String}

theorem exc_check_new {E : Value → Shared → Prop} {M : Model} (F : ExcBaseFacts B newId initId bmB) (hcont : (Value.ref C :: bm).contains (.type B) = true) {rest : List Value} {Q : Unit → Shared → Prop} (hC : h.get? C = some (excClassObj nm q C N bs bm hdct sn sub ab col dd k0 k1 k2 k3 k5 newId))
    (hq : Q () ⟨h, g, d, t, os⟩) : wpAny M A (checkBuiltinCall newId ⟨.ref C :: rest, []⟩) Q E ⟨h, g, d, t, os⟩ := by
  have hstar := F.noStar
  simp only [checkBuiltinCall, F.newKind, F.newSplit, F.newRow]
  repeat (first | refine wpAny_loadPart_at hC ?_ | (refine wpAny_isSubtype_exc hC ?_; rw [hcont]) | refine wpAny_staticBase_exc hC ?_ | refine wpAny_madeBy_exc hC ?_ | simp only [bne_self_eq_false, Bool.false_eq_true, if_false] | wp_step)
  exact hq

theorem exc_new {R : Result → Shared → Prop} (F : ExcBaseFacts B newId initId bmB) (hcB : (Value.ref C :: bm).contains (.type B) = true) (hcA : (Value.ref C :: bm).contains (.type "AttributeError") = false) (hcN : (Value.ref C :: bm).contains (.type "NameError") = false)
    {rest : List Value} (hC : h.get? C = some (excClassObj nm q C N bs bm hdct sn sub ab col dd k0 k1 k2 k3 k5 newId))
    (hq : R (.ok (.ret (.ref (h.objs.size + 1)))) ⟨(h.push { cls := .type "tuple", data := .seq rest.toArray }).push
      { cls := .ref C, data := .fields #[.ref h.objs.size, .none, .none, .none, .bool false, .none] }, g, d, t, os⟩) (hrest : rest.length ≤ sizeLine) :
    codeAny (model prog w) A (.builtin newId ⟨.ref C :: rest, []⟩) R ⟨h, g, d, t, os⟩ := by
  have hends := F.ends
  refine codeAny_builtinAt F.entry ?_
  unfold Builtin.«BaseException.__new__»
  refine PySem.wpAt_bind ?_
  show PySem.wpAt _ _ _ (stack >>= _) _ _ _
  refine PySem.wpAt_bind (PySem.wpAt_stack fun p below => PySem.wpAt_of_wpAny ?_)
  wp_walk
  refine PySem.wpAt_of_wpAny ?_
  rw [F.owner]
  repeat (first | with_reducible refine wpAny_madeHere_exc F.canon hC ?_ | with_reducible refine wpAny_loadPart_at hC ?_ | (with_reducible refine wpAny_isSubtype_exc hC ?_; first | rw [hcB] | rw [hcA] | rw [hcN]) | wp_step)
  show R _ _
  rw [Heap.size_push]
  exact hq

theorem exc_type_call {E : Value → Shared → Prop} {K : Frag} (X : K.In h) (F : ExcBaseFacts B newId initId bmB) (hcB : (Value.ref C :: bm).contains (.type B) = true) (hcA : (Value.ref C :: bm).contains (.type "AttributeError") = false) (hcN : (Value.ref C :: bm).contains (.type "NameError") = false)
    {rest : List Value} {fI : Addr} {Q : Fin → Shared → Prop}
    (hC : h.get? C = some (excClassObj nm q C N bs bm hdct sn sub ab col dd k0 k1 k2 k3 k5 newId)) (hi : findIn K (.ref C) "__init__" = some (some (.ref fI))) (hf : typeIn K (.ref fI) = some (.type "function"))
    (hq : ∀ h' e, Heap.MadeExcOf h h' e (.ref C) rest →
      wpAny (model prog w) A (call (.ref fI) (.ref e :: rest)) (fun r s' => r = .none ∧ Q (.done (.ret (.ref e))) s') E ⟨h', g, d, t, os⟩) (hrest : rest.length ≤ sizeLine) :
    wpAny (model prog w) A (Builtin.«type.__call__» ⟨.ref C :: rest, []⟩) Q E ⟨h, g, d, t, os⟩ := by
  repeat (first | with_reducible refine wpAny_loadPart_at hC ?_ | with_reducible refine wpAny_madeBy_exc hC ?_ | wp_step)
  refine codeAny_call_builtin_code (Code.quiet_builtin _ F.quiet) (exc_check_new F hcB hC ?_)
  refine exc_new F hcB hcA hcN hC ?_ hrest
  show wpAny _ _ _ _ _ _
  have kp : ∀ b o, h.get? b = some o → ((h.push { cls := .type "tuple", data := .seq rest.toArray }).push { cls := .ref C, data := .fields #[.ref h.objs.size, .none, .none, .none, .bool false, .none] }).get? b = some o :=
    fun b o e => Heap.get?_push_of_some _ (Heap.get?_push_of_some _ e)
  have hC₁ := kp _ _ hC
  have X₁ : K.In ((h.push { cls := .type "tuple", data := .seq rest.toArray }).push { cls := .ref C, data := .fields #[.ref h.objs.size, .none, .none, .none, .bool false, .none] }) := X.keeps kp
  have hget : ((h.push { cls := .type "tuple", data := .seq rest.toArray }).push
      { cls := .ref C, data := .fields #[.ref h.objs.size, .none, .none, .none, .bool false, .none] }).get? (h.objs.size + 1) = some
      { cls := .ref C, data := .fields #[.ref h.objs.size, .none, .none, .none, .bool false, .none] } := by heap_get
  have hcC : (Value.ref C :: bm).contains (.ref C) = true := by simp
  unfold isInstance
  repeat (first | with_reducible refine wpAny_loadPart_at hget ?_ | (with_reducible refine wpAny_isSubtype_exc hC₁ ?_; rw [hcC]) | wp_step)
  show wpAny _ _ (typeLookup (.ref C) _) _ _ _
  refine (looks_findIn X₁ hi).at ?_
  refine wpAny_holding (wpAny_bind ((bind_fn X₁ _ hf).at ?_))
  refine wpAny_bind (wpAny_mono (hq _ (h.objs.size + 1) ⟨kp, Heap.get?_none_of_le (Nat.le_succ _), h.objs.size, hget, Heap.get?_none_of_le (Nat.le_refl _), ?_⟩) (fun r s' hr => ?_) fun _ _ x => x)
  · exact Heap.get?_push_of_some _ (Heap.get?_push_at rfl rfl)
  · obtain ⟨rfl, hQ⟩ := hr
    wp_walk
    exact hQ

theorem exc_call {E : Value → Shared → Prop} {K : Frag} (X : K.In h) (F : ExcBaseFacts B newId initId bmB) (hcB : (Value.ref C :: bm).contains (.type B) = true) (hcA : (Value.ref C :: bm).contains (.type "AttributeError") = false) (hcN : (Value.ref C :: bm).contains (.type "NameError") = false)
    {rest : List Value} {fI : Addr} {Q : Value → Shared → Prop}
    (hC : h.get? C = some (excClassObj nm q C N bs bm hdct sn sub ab col dd k0 k1 k2 k3 k5 newId)) (hi : findIn K (.ref C) "__init__" = some (some (.ref fI))) (hf : typeIn K (.ref fI) = some (.type "function"))
    (hq : ∀ h' e, Heap.MadeExcOf h h' e (.ref C) rest →
      wpAny (model prog w) (A.under (.builtin "type.__call__" ⟨.ref C :: rest, []⟩)) (call (.ref fI) (.ref e :: rest)) (fun r s' => r = .none ∧ Q (.ref e) s') E ⟨h', g, d, t, os⟩) (hrest : rest.length ≤ sizeLine) :
    wpAny (model prog w) A (call (.ref C) rest) Q E ⟨h, g, d, t, os⟩ := by
  have f1 := tc_lookup
  have f2 := tc_bind (.ref C)
  have hT : (⟨h, g, d, t, os⟩ : Shared).TypeIs (.ref C) "type" := ⟨_, hC, rfl⟩
  refine wpAny_call (codeAny_of_tree ?_)
  show wpAny _ _ (callAny (.ref C) _) _ _ _
  repeat (any_goals (first | assumption | with_reducible refine wpAny_loadPart_at hC ?_ | wp_step))
  refine ⟨rfl, ?_⟩
  refine codeAny_call_builtin_at (Code.quiet_builtin _ (by decide +kernel)) entry_typeCall (wpAny_check_type_call_sub hC (exc_type_call X F hcB hcA hcN hC hi hf (fun h' e hm => ?_) hrest))
  exact hq h' e hm
end
end Mine

namespace Mine
theorem top_off_SR3 : True := by
  w_top off
  trivial
local macro_rules | `(tactic| k_room) => `(tactic| ((try simp only [depth_mark, depth_under_make, depth_under_kw, depth_in1, depth_deeper, depth_caller]); (try dsimp only); omega))
local macro_rules | `(tactic| k_units) => `(tactic| ((try simp only [units_in1, units_deeper, Around.mark_units]); (try dsimp only); omega))

structure MadeX (h h' : Heap) (e : Addr) (cls : Value) : Prop where
  keeps : ∀ b o, h.get? b = some o → h'.get? b = some o
  new : h.get? e = none
  there : ∃ oe t vs, h'.get? e = some oe ∧ oe.cls = cls ∧ oe.data = .fields #[.ref t, .none, .none, .none, .bool false, .none] ∧ h.get? t = none ∧ h'.TupAt t vs

theorem exc_made {w : World} {A₀ : Around} {s : Shared} {base h₀ : Heap} {outer : List Env} {env : Env} {L : Addr} {m mg mb : Str → Option Value} {mean : ExcName → Option Value} {loose : List Str} {d u : Nat} {gs : Option (List Code)}
  {msg : Str} {tt : Tok} {Q : Value → Shared → Prop} {E : Value → Shared → Prop}
  (B : Below A₀ base outer h₀) (F : Fr h₀ L s.heap m) (X₀ : (hd.heap_39 w.params).In h₀) (T : Top topProg loose mean mg mb h₀)
  (hf : env.frame = some L) (hke : env.scope.kind = .function) (hdep : d + 50 < recursionLimit) (hun : u + 500 < cLine)
  (k : ∀ h' tk e, MadeX s.heap h' e (.ref 44) → Q (.ref e) {s with heap := h', toks := tk}) :
  wpAny (model Challenge.rw_on0333_01.row.prog w) ⟨none, d, some (env :: outer), gs, u⟩ (call (.ref 44) [.str msg tt]) Q E s := by
  revert X₀; k_fill; intro X₀
  obtain ⟨hp, g, dr, tk, os⟩ := s
  have X := X₀.keeps F.keep
  refine' exc_call (K := hd.heap_39 w.params) (C := 44) X PySem.F.excBase_Exception ?b1 ?b2 ?b3 ?hC ?hi ?hf ?hq ?hr
  case hC => exact X 44 _ (by k_is)
  case hi => k_is
  case hf => k_is
  case b1 => decide
  case b2 => decide
  case b3 => decide
  case hr => exact (by rw [sizeLine_eq]; decide : 1 ≤ sizeLine)
  case hq =>
    intro h₁ e hm
    have F1 : Fr h₀ L h₁ m := F.keeps hm.keeps
    refine wpAny_call ?_
    refine' code_defS (s := ⟨h₁, g, dr, tk, os⟩) B F1 X₀ (news := []) (fun _ h => nomatch h) T ?kA hf hke ?k6 ?k7 ?k8 ?k9 ?kB ?_ ?c2 ?c3 ?c4 ?c5 (binds := [(Str.ofString "self", .ref e), (Str.ofString "message", .str msg tt)])
    case kA => exact rfl
    case k6 => k_is
    case k7 => k_is
    case k8 => k_room
    case k9 => exact BindsTo.of_eq rfl
    case kB => exact locs rfl
    case c2 => exact rfl
    case c3 => exact rfl
    case c4 => exact rfl
    case c5 => decide
    intro g' L' h' hg FG F' N' B' X' T'
    clear FG
    (try dsimp only)
    k_steps
    obtain ⟨t₀, he, htn, ht⟩ := hm.there
    have he' := F'.keep _ _ (hg _ _ he (by simp))
    refine' exc_set (K := hd.heap_39 w.params) (C := 44) (X'.keeps F'.keep) he' rfl rfl rfl ?s1 ?s2 ?s3 ?s4 ?s5 ?s6 ?s7 ?_
    case s1 => k_is
    case s2 => k_is
    case s3 => rfl
    case s4 => decide
    case s5 =>
      intro self
      show refuseLoop self _ [.ref 44, .ref 31, .type "Exception", .type "BaseException", .type "object"] = _
      rw [refuseLoop_ref, refuseLoop_ref]
      exact PySem.F.store_Exception.passes self
    case s6 => k_is
    case s7 => rfl
    intro h₃ tk' d' kp e3
    k_steps
    refine k h₃ tk' e ⟨fun b o hb => kp b o (fun q => ?_) (F'.keep _ _ (hg _ _ (hm.keeps b o hb) (by simp))), hm.new, ⟨_, t₀, [.str msg tt], e3, rfl, rfl, htn, ⟨_, 0, kp t₀ _ (fun q => ?_) (F'.keep _ _ (hg _ _ ht (by simp))), rfl, rfl⟩⟩⟩
    · have := hm.new
      rw [← q, hb] at this; cases this
    · rw [q, he] at ht; cases ht
end Mine

namespace Mine
theorem top_off_SR4 : True := by
  w_top off
  trivial
structure ExcPost (C : Addr) (oC : Obj) (E : Value → Shared → Prop) (v : Value) (s₁ : Shared) : Prop where
  out : ∃ e t oe, v = .ref e ∧ s₁.heap.get? C = some oC ∧ s₁.heap.get? e = some oe ∧ oe.cls = .ref C ∧ oe.data = .fields #[.ref t, .none, .none, .none, .bool false, .none] ∧ E (.ref e) s₁
section
variable {M : Model} {A : Around} {E : Value → Shared → Prop} {env : Env} {s : Shared}
variable {nm q : Str} {C N : Addr} {bs bm : List Value} {hdct : Bool} {sn : List Str} {sub : List Value} {ab : Bool} {col : Option Bool} {dd : Option Addr} {k0 k1 k2 k3 k5 : Option Value} {newId : String}
theorem exc_raise {ex : Expr} {pos : Pos} {Q : Flow → Shared → Prop} (hbase : bm.contains (.type "BaseException") = true) (hh : A.handled = none)
    (h : wpAny M A (eval ex env) (ExcPost C (excClassObj nm q C N bs bm hdct sn sub ab col dd k0 k1 k2 k3 k5 newId) E) E s) :
    wpAny M A (exec (.Raise (some ex) none pos) env) Q E s := by
  have hcB : (Value.ref C :: bm).contains (.type "BaseException") = true := by rw [List.contains_cons, hbase, Bool.or_true]
  rw [arm_exec_Raise]
  simp only [evalOpt, Option.map]
  refine wpAny_bind (wpAny_standAt ?_)
  unfold raiseStmt
  refine wpAny_bind (wpAny_mono (wpAny_bind (wpAny_mono h (fun v s₁ h₁ => wpAny_bind (wpAny_standAt (wpAny_pure h₁))) fun _ _ x => x)) (fun v s₁ h₁ => ?_) fun _ _ x => x)
  obtain ⟨e, t, ⟨oc, od, oda, osl⟩, rfl, hC, he, hcl, hda, hE⟩ := h₁.out
  dsimp only at hcl hda
  subst hcl hda
  obtain ⟨hp, g, d, tk, os⟩ := s₁
  repeat (first | with_reducible refine wpAny_loadPart_at he ?_ | with_reducible refine wpAny_loadPart_at hC ?_ | (with_reducible refine wpAny_isSubtype_exc hC ?_; rw [hcB]) | wp_step)
  exact wpAny_raiseNew_none hh hE
end
end Mine

namespace Mine
theorem top_off_SR5 : True := by
  w_top off
  trivial
section
variable {M : Model} {A : Around} {E : Value → Shared → Prop} {s' : Shared} {base g g₂ h : Heap} {outer : List Env} {L a e t : Addr} {m : Str → Option Value} {name : Str} {scope : Scope} {cd : Value} {Q : Unit → Shared → Prop} {news : List (Addr × Obj)} {env : Env}
theorem kts_memX {b : Addr} (hf : env.frame = some L) (hm : b ∈ (env :: outer).filterMap (·.frame)) : b = L ∨ b ∈ outer.filterMap (·.frame) := by
  obtain ⟨env', he, hf'⟩ := List.mem_filterMap.mp hm
  rcases List.mem_cons.mp he with rfl | he
  · exact .inl (Option.some.inj (hf'.symm.trans hf))
  · exact .inr (List.mem_filterMap.mpr ⟨env', he, hf'⟩)

/-- An address of the frames that stand while this call leaves: its own (new over g) or an older one (there in g). -/
theorem frs_cases (K : Below A base outer g) (F : Fr g L h m) (hf : env.frame = some L) {b : Addr} (hm : b ∈ (env :: outer).filterMap (·.frame)) :
    (b = L ∧ g.get? b = none) ∨ (b ∈ outer.filterMap (·.frame) ∧ ∃ o, g.get? b = some o) :=
  (kts_memX hf hm).elim (fun z => .inl ⟨z, z ▸ kts_self F⟩) fun z => .inr ⟨z, (K.frames.mem z).2.imp fun _ q => q.1⟩
theorem hide_none {l : List Addr} {b : Addr} (hb : h.get? b = none) : (hideAll h l).get? b = none :=
  Option.eq_none_iff_forall_ne_some.mpr fun o q => nomatch hb.symm.trans (of_hideAll l q)

theorem leave_madeX {cls : Value} (K : Below A base outer g) (hx : MadeX h s'.heap e cls) (F : Fr g L h m) (N : News g L h news)
    (hQ : ∀ h' t vs, RaisedS base g outer e cls t vs news h' → g.UpToSlots h' → Q () { s' with heap := h' }) (hk : scope.kind = .function) :
    wpAny M (A.deeper (envOf name scope L a cd)) (leaving (envOf name scope L a cd) (.ref e)) Q E s' := by
  have KP := K.push (name := name) (a := a) (cd := cd) F hk
  obtain ⟨oe, t, vs, he, hcl, hda, htn, ht⟩ := hx.there
  subst hcl
  have off : ∀ {b : Addr}, b ∈ (envOf name scope L a cd :: outer).filterMap (·.frame) → (b = L ∧ g.get? b = none) ∨ (b ∈ outer.filterMap (·.frame) ∧ ∃ o, g.get? b = some o) := fun hm => frs_cases K F rfl hm
  have hun := (Heap.UpToSlots.of_keeps F.keep).trans (Heap.UpToSlots.of_keeps hx.keeps)
  refine wpAny_leaving_firstW (base := hideAll h ((envOf name scope L a cd :: outer).filterMap (·.frame))) (a0 := .ref t) KP.stack ?fr rfl he (fun b o hb => hx.keeps b o (of_hideAll _ hb)) (hide_none hx.new) hda rfl rfl
    fun h' hL => hQ h' t vs ⟨⟨_, fun b o q => ?st, fun b o q nm => ?sg, fun p hp => ?nw, ⟨hL.1, hide_none hx.new, hL.2.1.2.2, hL.2.2.1⟩, hide_none htn⟩, ht.of_slots hL.2.2.2⟩ (hun.trans hL.2.2.2)
  case fr =>
    refine (funFrames_hide KP.frames fun v hv b hb => ?_).of_keeps fun b o hb _ => ⟨o, hx.keeps b o hb, rfl⟩
    exact List.mem_filterMap.mpr ⟨v, hv, hb⟩
  case st => exact hideAll_get _ (KP.stays b o q) fun hm => nomatch q.symm.trans (KP.frames.mem hm).1
  case sg => exact hideAll_get _ (F.keep b o q) fun hm => (off hm).elim (fun z => nomatch q.symm.trans z.2) fun z => nm z.1
  case nw =>
    obtain ⟨n1, n2, n3⟩ := N p hp
    exact ⟨hideAll_get _ n1 fun hm => (off hm).elim (fun z => n2 z.1) (fun ⟨_, o, z⟩ => nomatch z.symm.trans n3), n3, fresh_of_stays K.stays n3⟩

theorem leave_onX {cls : Value} {vs : List Value} (K : Below A base outer g) (F : Fr g L g₂ m) (hf : env.frame = some L) (R : RaisedS base g₂ (env :: outer) e cls t vs news s'.heap) (hsm : g₂.UpToSlots s'.heap)
    (hQ : ∀ h', RaisedS base g outer e cls t vs news h' → g.UpToSlots h' → Q () { s' with heap := h' }) :
    wpAny M (A.deeper env) (leaving env (.ref e)) Q E s' := by
  obtain ⟨⟨B, hB, hBG, hl, hfl, hnew⟩, htup⟩ := R
  exact wpAny_leaves_onW (Around.frames_deeper K.stack) hf hfl fun h' x1 x2 =>
    hQ h' ⟨⟨B, hB, fun b o q nm => hBG b o (F.keep b o q) (fun hm => by
      rcases kts_memX hf hm with z | z
      · rw [z, kts_self F] at q
        cases q
      · exact nm z), fun q hq => ⟨(hl q hq).1, kts_none F.keep (hl q hq).2.1, (hl q hq).2.2⟩, x1, hnew⟩, htup.of_slots x2⟩ ((Heap.UpToSlots.of_keeps F.keep).trans (hsm.trans x2))
end
end Mine

namespace Mine
theorem top_off_SR6 : True := by
  w_top off
  trivial
local macro_rules | `(tactic| k_room) => `(tactic| ((try simp only [depth_mark, depth_under_make, depth_under_kw, depth_in1, depth_deeper, depth_caller]); (try dsimp only); omega))
local macro_rules | `(tactic| k_units) => `(tactic| ((try simp only [units_in1, units_deeper, Around.mark_units]); (try dsimp only); omega))

structure KeepS (fs T : List Addr) (h h' : Heap) : Prop where
  same : ∀ b o, h.get? b = some o → b ∉ T → b ∉ fs → h'.get? b = some o
  slot : ∀ b o, h.get? b = some o → b ∉ T → b ∈ fs → ∃ sl, h'.get? b = some { o with slots := sl }

theorem keepS_turn {fs : List Addr} {h h' g g' h₀ : Heap} {L L' : Addr} {m' : Str → Option Value} {led : List (Addr × Obj)} (hg : ∀ b o, h.get? b = some o → b ∉ led.map (·.1) → g.get? b = some o) (N : News h₀ L h led)
    (TT : KtsTurn fs g g') (F2 : Fr g' L' h' m') (N2 : News g' L' h' led) : KeepS fs [] h h' := by
  have same : ∀ b o, h.get? b = some o → b ∈ led.map (·.1) → h'.get? b = some o := fun b o e hb => by
    obtain ⟨p, hp, hpe⟩ := List.mem_map.mp hb
    have e1 := (N p hp).1
    have e2 := (N2 p hp).1
    rw [hpe, e] at e1
    rw [hpe, ← e1] at e2
    exact e2
  refine ⟨fun b o e _ nf => ?_, fun b o e _ mf => ?_⟩
  · by_cases hb : b ∈ led.map (·.1)
    · exact same b o e hb
    · exact F2.keep _ _ (TT.other b o (hg b o e hb) nf)
  · by_cases hb : b ∈ led.map (·.1)
    · exact ⟨o.slots, same b o e hb⟩
    · obtain ⟨sl, hs⟩ := TT.frame b o (hg b o e hb) mf
      exact ⟨sl, F2.keep _ _ hs⟩

local macro_rules | `(tactic| walk_at "noteFrame ref") => `(tactic| (k_here; k_dflt (refine' caught_SO0 ?R ?F ?K ?U ?XB ?TB ?D ?T0 ?ex ?q ?_; (case R => assumption); (case F => assumption); (case K => assumption); (case U => assumption); (case XB => assumption); (case TB => assumption); (case D => assumption); (case T0 => exact KtsTurn.refl); (case ex => k_is); (case q => kts_isx); k_whole); intro h' g' n₂ T' F' N₂ G' N' K' X' P' D'; (try k_sweep)))

theorem refused_spec {w : World} {A₀ : Around} {s : Shared} {base h₀ : Heap} {outer : List Env} {env : Env} {L : Addr} {m mg mb : Str → Option Value} {mean : ExcName → Option Value} {loose : List Str} {d u : Nat} {gs : Option (List Code)}
  {fn : Addr} {nm ql : Str} {pr : Arguments} {bd : Expr} {sc : Scope} {cl : List (Str × Addr)} {pmv ctv : Value} {c' cc cP : Addr} {rest : List (Addr × Obj)} {R : Result → Shared → Prop}
  (B : Below A₀ base outer h₀) (F : Fr h₀ L s.heap m) (X₀ : (hd.heap_39 w.params).In h₀) (T : Top topProg loose mean mg mb h₀)
  (N : News h₀ L s.heap ((fn, kla_obj nm ql pr bd sc cl pmv c' ctv) :: rest)) (C : CodeHd h₀ cc cP)
  (XB : (hd.heap_39 w.params).In base) (TB : Top topProg loose mean mg mb base) (D : KtsDicts (outer.filterMap (·.frame)) h₀)
  (hf : env.frame = some L) (hke : env.scope.kind = .function) (hdep : d + 50 < recursionLimit) (hun : u + 500 < cLine)
  (hcd : s.heap.CodeRec (.ref c') ql) (hnc : c' ∉ ((fn, kla_obj nm ql pr bd sc cl pmv c' ctv) :: rest).map (·.1))
  (hcall : ∀ (env₁ : Env) (g₁ : Heap) (L₁ : Addr) (m₁ : Str → Option Value) (s₁ : Shared) (u₁ : Nat) (E : Value → Shared → Prop) (Q : Value → Shared → Prop),
    env₁.frame = some L₁ → env₁.scope.kind = .function → Below ⟨none, d, some (env :: outer), gs, u⟩ base (env :: outer) g₁ → Fr g₁ L₁ s₁.heap m₁ → News g₁ L₁ s₁.heap ((fn, kla_obj nm ql pr bd sc cl pmv c' ctv) :: rest) → (hd.heap_39 w.params).In g₁ → Top topProg loose mean mg mb g₁ →
    s₁.heap.CodeRec (.ref c') ql → u₁ ≤ u + 20 →
    (∀ h' tk e G t vs, Fr g₁ L₁ G m₁ → RaisedS base G (env₁ :: env :: outer) e (.ref 44) t vs ((fn, kla_obj nm ql pr bd sc cl pmv c' ctv) :: rest) h' → G.UpToSlots h' → E (.ref e) { s₁ with heap := h', toks := tk }) →
    wpAny (model Challenge.rw_on0333_01.row.prog w) ⟨none, d + 1, some (env₁ :: env :: outer), gs, u₁⟩ (call (.ref fn) []) Q E s₁)
  (k : ∀ h' tk, KeepS ((env :: outer).filterMap (·.frame)) [] s.heap h' → R (.ok (.ret (.bool true))) {s with heap := h', toks := tk}) :
  codeAny (model Challenge.rw_on0333_01.row.prog w) ⟨none, d, some (env :: outer), gs, u⟩ (.call (.ref 130) ⟨[.ref fn], []⟩) R s := by
  revert X₀; k_fill; intro X₀
  refine' code_defS B F X₀ N T ?kA hf hke ?k6 ?k7 ?k8 ?k9 ?kB ?_ ?c2 ?c3 ?c4 ?c5 (binds := [(Str.ofString "call", .ref fn)])
  case kA => exact rfl
  case k6 => k_is
  case k7 => k_is
  case k8 => k_room
  case k9 => exact BindsTo.of_eq rfl
  case kB => exact locs rfl
  case c2 => exact rfl
  case c3 => exact rfl
  case c4 => exact rfl
  case c5 => decide
  intro g L' h' hg FG F' N' B' X' T'
  have Dg : KtsDicts ((env :: outer).filterMap (·.frame)) g := by
    intro b hb
    rcases kts_memX hf hb with rfl | hb
    · obtain ⟨oL, es, ep, hL, hda, _⟩ := FG.ns
      exact ⟨oL, es, ep, hL, hda⟩
    · obtain ⟨o, es, n, ho, hda⟩ := D b hb
      exact ⟨o, es, n, FG.keep _ _ ho, hda⟩
  have Cg : CodeHd g cc cP := C.keeps FG.keep
  clear FG
  (try dsimp only)
  (try k_fold)
  k_steps
  all_goals (try dsimp only)
  all_goals (try k_unfold)
  have hrc : h'.CodeRec (.ref c') ql := by
    obtain ⟨c₂, oc, vs, t, e2, hoc, hd2, hv⟩ := hcd
    cases e2
    exact ⟨c', oc, vs, t, rfl, F'.keep _ _ (hg _ _ hoc hnc), hd2, hv⟩
  refine' hcall _ _ _ _ _ _ _ _ rfl rfl B' F' N' X' T' hrc (by show u + 3 ≤ u + 20; omega) ?_
  intro h₂ tk₂ e₂ G₂ t₂ vs₂ FG₂ R₂ U₂
  (try dsimp only)
  k_steps
  all_goals (try dsimp only)
  all_goals (try k_unfold)
  rename KtsTurn _ g _ => TT
  rename Fr _ L' _ _ => F2
  rename News _ L' _ (_ :: _) => N2
  exact k _ _ (keepS_turn hg N TT F2 N2)

theorem refused_call {w : World} {A₀ : Around} {s : Shared} {base h₀ : Heap} {outer : List Env} {env : Env} {L : Addr} {m mg mb : Str → Option Value} {mean : ExcName → Option Value} {loose : List Str} {d u : Nat} {gs : Option (List Code)}
  {fn : Addr} {nm ql : Str} {pr : Arguments} {bd : Expr} {sc : Scope} {cl : List (Str × Addr)} {pmv ctv : Value} {c' cc cP : Addr} {rest : List (Addr × Obj)} {Q : Value → Shared → Prop} {E : Value → Shared → Prop}
  (B : Below A₀ base outer h₀) (F : Fr h₀ L s.heap m) (X₀ : (hd.heap_39 w.params).In h₀) (T : Top topProg loose mean mg mb h₀)
  (N : News h₀ L s.heap ((fn, kla_obj nm ql pr bd sc cl pmv c' ctv) :: rest)) (C : CodeHd h₀ cc cP)
  (XB : (hd.heap_39 w.params).In base) (TB : Top topProg loose mean mg mb base) (D : KtsDicts (outer.filterMap (·.frame)) h₀)
  (hf : env.frame = some L) (hke : env.scope.kind = .function) (hdep : d + 50 < recursionLimit) (hun : u + 500 < cLine)
  (hcd : s.heap.CodeRec (.ref c') ql) (hnc : c' ∉ ((fn, kla_obj nm ql pr bd sc cl pmv c' ctv) :: rest).map (·.1))
  (hcall : Stuck (∀ (env₁ : Env) (g₁ : Heap) (L₁ : Addr) (m₁ : Str → Option Value) (s₁ : Shared) (u₁ : Nat) (E : Value → Shared → Prop) (Q : Value → Shared → Prop),
    env₁.frame = some L₁ → env₁.scope.kind = .function → Below ⟨none, d, some (env :: outer), gs, u⟩ base (env :: outer) g₁ → Fr g₁ L₁ s₁.heap m₁ → News g₁ L₁ s₁.heap ((fn, kla_obj nm ql pr bd sc cl pmv c' ctv) :: rest) → (hd.heap_39 w.params).In g₁ → Top topProg loose mean mg mb g₁ →
    s₁.heap.CodeRec (.ref c') ql → u₁ ≤ u + 20 →
    (∀ h' tk e G t vs, Fr g₁ L₁ G m₁ → RaisedS base G (env₁ :: env :: outer) e (.ref 44) t vs ((fn, kla_obj nm ql pr bd sc cl pmv c' ctv) :: rest) h' → G.UpToSlots h' → E (.ref e) { s₁ with heap := h', toks := tk }) →
    wpAny (model Challenge.rw_on0333_01.row.prog w) ⟨none, d + 1, some (env₁ :: env :: outer), gs, u₁⟩ (call (.ref fn) []) Q E s₁))
  (k : ∀ h' tk, KeepS ((env :: outer).filterMap (·.frame)) [] s.heap h' → Q (.bool true) {s with heap := h', toks := tk}) :
  wpAny (model Challenge.rw_on0333_01.row.prog w) ⟨none, d, some (env :: outer), gs, u⟩ (call (.ref 130) [.ref fn]) Q E s :=
  wpAny_call (refused_spec B F X₀ T N C XB TB D hf hke hdep hun hcd hnc hcall.out k)
end Mine

namespace Mine
theorem top_off_SR7 : True := by
  w_top off
  trivial
local macro_rules | `(tactic| k_room) => `(tactic| ((try simp only [depth_mark, depth_under_make, depth_under_kw, depth_in1, depth_deeper, depth_caller]); (try dsimp only); omega))
local macro_rules | `(tactic| k_units) => `(tactic| ((try simp only [units_in1, units_deeper, Around.mark_units]); (try dsimp only); omega))
local macro_rules | `(tactic| walk_at "call ref") => `(tactic| (k_here; (with_reducible show wpAny _ _ (PySem.call (Value.ref 44) _) _ _ _); k_dflt (refine' exc_made ?B ?F ?X ?T ?hf ?hke ?hd ?hu ?_; (case B => k_asm); (case F => k_asm); (case X => k_asm); (case T => k_asm); (case hf => exact rfl); (case hke => exact rfl); (case hd => k_room); (case hu => (dsimp only; omega)); k_whole); intro h' tk' e' MX'))
local macro_rules | `(tactic| walk_at "exec Raise some none") => `(tactic| (refine stuck ?_))

theorem part_raise {w : World} {A₀ : Around} {s : Shared} {base h₀ : Heap} {outer : List Env} {env : Env} {L : Addr} {m mg mb : Str → Option Value} {mean : ExcName → Option Value} {loose : List Str} {d u : Nat} {gs : Option (List Code)}
  {q qd : Addr} {room near many : Int} {h1 h2 : Int} {k1 k2 tr tb t3 t4 : Tok} {hb : Array UInt8} {ns : List Int} {news : List (Addr × Obj)} {R : Result → Shared → Prop}
  (B : Below A₀ base outer h₀) (F : Fr h₀ L s.heap m) (X₀ : (hd.heap_39 w.params).In h₀) (T : Top topProg loose mean mg mb h₀)
  (N : News h₀ L s.heap news) (hq : (q, instObj 98 qd) ∈ news) (hqd : (qd, qDict h1 h2 k1 k2 room tr hb tb) ∈ news)
  (hB : KBw.bInts hb = ns) (hn1 : ns.length ≤ 100) (hbad : near < 0 ∨ many < 0 ∨ (ns.length : Int) < near + many)
  (hf : env.frame = some L) (hke : env.scope.kind = .function) (hdep : d + 70 < recursionLimit) (hun : u + 700 < cLine)
  (k : ∀ h' tk e G t vs, Fr h₀ L G m → RaisedS base G (env :: outer) e (.ref 44) t vs news h' → G.UpToSlots h' → R (.error (.ref e)) {s with heap := h', toks := tk}) :
  codeAny (model Challenge.rw_on0333_01.row.prog w) ⟨none, d, some (env :: outer), gs, u⟩ (.call (.ref 88) ⟨[.ref q, .int near t3, .int many t4], []⟩) R s := by
  revert X₀; k_fill; intro X₀
  refine' code_defS B F X₀ N T ?kA hf hke ?k6 ?k7 ?k8 ?k9 ?kB ?_ ?c2 ?c3 ?c4 ?c5 (binds := [(Str.ofString "self", .ref q), (Str.ofString "at", .int near t3), (Str.ofString "many", .int many t4)])
  case kA => exact rfl
  case k6 => k_is
  case k7 => k_is
  case k8 => k_room
  case k9 => exact BindsTo.of_eq rfl
  case kB => exact locs rfl
  case c2 => exact rfl
  case c3 => exact rfl
  case c4 => exact rfl
  case c5 => decide
  intro g L' h' hg FG F' N' B' X' T'
  (try dsimp only)
  (try k_fold)
  have NQ : News g L' h' [(q, instObj 98 qd), (qd, qDict h1 h2 k1 k2 room tr hb tb)] := fun p hp => N' p (by
      rcases List.mem_cons.mp hp with rfl | hp
      · exact hq
      · rw [List.mem_singleton.mp hp]; exact hqd)
  have NF : Stuck (News g L' h' news) := ⟨N'⟩
  clear N N'
  k_steps
  all_goals (refine ⟨?_⟩)
  all_goals (obtain ⟨nm, qn, Nn, bs, bm, hdct, sn, sub, ab, col, dd, j0, j1, j2, j3, j5, newId, hC, hbase, hbT⟩ := kts_cls (T := "BaseException") X' (show ktsIn (hd.heap_39 w.params) 44 "BaseException" = true by kts_isx))
  all_goals (refine exc_raise (C := 44) (nm := nm) (q := qn) (N := Nn) (bs := bs) (bm := bm) (hdct := hdct) (sn := sn) (sub := sub) (ab := ab) (col := col) (dd := dd) (k0 := j0) (k1 := j1) (k2 := j2) (k3 := j3) (k5 := j5) (newId := newId) hbase rfl ?_)
  all_goals k_steps
  all_goals (rename MadeX _ _ _ _ => MX)
  all_goals (obtain ⟨oe, t₀, vs₀, he, hcl, hda, htn, ht⟩ := id MX.there)
  all_goals (refine ⟨_, t₀, oe, rfl, MX.keeps _ _ (F'.keep _ _ hC), he, hcl, hda, ?_⟩)
  all_goals k_unfold
  all_goals (refine leave_madeX B' MX F' NF.out (fun h₃ t₃ vs₃ R₃ U₃ => ?_) rfl)
  all_goals (exact k h₃ _ _ g t₃ vs₃ FG R₃ U₃)

theorem drop_raise {w : World} {A₀ : Around} {s : Shared} {base h₀ : Heap} {outer : List Env} {env : Env} {L : Addr} {m mg mb : Str → Option Value} {mean : ExcName → Option Value} {loose : List Str} {d u : Nat} {gs : Option (List Code)}
  {q qd : Addr} {room many : Int} {h1 h2 : Int} {k1 k2 tr tb t4 : Tok} {hb : Array UInt8} {ns : List Int} {news : List (Addr × Obj)} {R : Result → Shared → Prop}
  (B : Below A₀ base outer h₀) (F : Fr h₀ L s.heap m) (X₀ : (hd.heap_39 w.params).In h₀) (T : Top topProg loose mean mg mb h₀)
  (N : News h₀ L s.heap news) (hq : (q, instObj 98 qd) ∈ news) (hqd : (qd, qDict h1 h2 k1 k2 room tr hb tb) ∈ news)
  (hB : KBw.bInts hb = ns) (hn1 : ns.length ≤ 100) (hbad : many < 0 ∨ (ns.length : Int) < many)
  (hf : env.frame = some L) (hke : env.scope.kind = .function) (hdep : d + 70 < recursionLimit) (hun : u + 700 < cLine)
  (k : ∀ h' tk e G t vs, Fr h₀ L G m → RaisedS base G (env :: outer) e (.ref 44) t vs news h' → G.UpToSlots h' → R (.error (.ref e)) {s with heap := h', toks := tk}) :
  codeAny (model Challenge.rw_on0333_01.row.prog w) ⟨none, d, some (env :: outer), gs, u⟩ (.call (.ref 95) ⟨[.ref q, .int many t4], []⟩) R s := by
  revert X₀; k_fill; intro X₀
  refine' code_defS B F X₀ N T ?kA hf hke ?k6 ?k7 ?k8 ?k9 ?kB ?_ ?c2 ?c3 ?c4 ?c5 (binds := [(Str.ofString "self", .ref q), (Str.ofString "many", .int many t4)])
  case kA => exact rfl
  case k6 => k_is
  case k7 => k_is
  case k8 => k_room
  case k9 => exact BindsTo.of_eq rfl
  case kB => exact locs rfl
  case c2 => exact rfl
  case c3 => exact rfl
  case c4 => exact rfl
  case c5 => decide
  intro g L' h' hg FG F' N' B' X' T'
  (try dsimp only)
  (try k_fold)
  have NQ : News g L' h' [(q, instObj 98 qd), (qd, qDict h1 h2 k1 k2 room tr hb tb)] := fun p hp => N' p (by
      rcases List.mem_cons.mp hp with rfl | hp
      · exact hq
      · rw [List.mem_singleton.mp hp]; exact hqd)
  have NF : Stuck (News g L' h' news) := ⟨N'⟩
  clear N N'
  k_steps
  all_goals (refine ⟨?_⟩)
  all_goals (obtain ⟨nm, qn, Nn, bs, bm, hdct, sn, sub, ab, col, dd, j0, j1, j2, j3, j5, newId, hC, hbase, hbT⟩ := kts_cls (T := "BaseException") X' (show ktsIn (hd.heap_39 w.params) 44 "BaseException" = true by kts_isx))
  all_goals (refine exc_raise (C := 44) (nm := nm) (q := qn) (N := Nn) (bs := bs) (bm := bm) (hdct := hdct) (sn := sn) (sub := sub) (ab := ab) (col := col) (dd := dd) (k0 := j0) (k1 := j1) (k2 := j2) (k3 := j3) (k5 := j5) (newId := newId) hbase rfl ?_)
  all_goals k_steps
  all_goals (rename MadeX _ _ _ _ => MX)
  all_goals (obtain ⟨oe, t₀, vs₀, he, hcl, hda, htn, ht⟩ := id MX.there)
  all_goals (refine ⟨_, t₀, oe, rfl, MX.keeps _ _ (F'.keep _ _ hC), he, hcl, hda, ?_⟩)
  all_goals k_unfold
  all_goals (refine leave_madeX B' MX F' NF.out (fun h₃ t₃ vs₃ R₃ U₃ => ?_) rfl)
  all_goals (exact k h₃ _ _ g t₃ vs₃ FG R₃ U₃)

end Mine

namespace Mine
theorem top_off_STab : True := by
  w_top off
  trivial
theorem triples_snoc {a b : Nat} {c : Value} (l : List Value) (h : TriplesOk l) : TriplesOk (l ++ [rawInt a, rawInt b, c]) := by
  fun_induction TriplesOk l with
  | case1 => simp [TriplesOk, rawInt]
  | case2 i t j u x rest ih => simpa [TriplesOk] using ih h
  | case3 => exact h.elim
theorem among_snoc_ne {p q : Pos} {c : Value} (hne : ¬ (q.line = p.line ∧ q.col = p.col)) (l : List Value) (h : TriplesOk l) : codeAmong p (l ++ [rawInt q.line, rawInt q.col, c]) = codeAmong p l := by
  fun_induction TriplesOk l with
  | case1 =>
    simp only [List.nil_append, codeAmong, rawInt]
    rw [if_neg]
    simp only [Bool.and_eq_true, beq_iff_eq]
    omega
  | case2 i t j u x rest ih =>
    simp only [List.cons_append, codeAmong]
    rw [ih h]
  | case3 => exact h.elim

/-- what the table of a def's own code objects may hold, for two places -/
structure TabInv (base h : Heap) (ql : Str) (p₁ p₂ : Pos) (ps : Array Value) : Prop where
  ok : TriplesOk ps.toList
  one : codeAmong p₁ ps.toList = none ∨ ∃ c, codeAmong p₁ ps.toList = some (.ref c) ∧ c ≠ 139 ∧ base.get? c = none ∧ h.CodeRec (.ref c) ql
  two : codeAmong p₂ ps.toList = none ∨ ∃ c, codeAmong p₂ ps.toList = some (.ref c) ∧ c ≠ 139 ∧ base.get? c = none ∧ h.CodeRec (.ref c) ql
theorem TabInv.keeps {base h h' : Heap} {ql : Str} {p₁ p₂ : Pos} {ps : Array Value} (x : TabInv base h ql p₁ p₂ ps) (k : ∀ b o, h.get? b = some o → h'.get? b = some o) : TabInv base h' ql p₁ p₂ ps :=
  ⟨x.ok, x.one.imp_right fun ⟨c, a, b, d, r⟩ => ⟨c, a, b, d, r.keeps k⟩, x.two.imp_right fun ⟨c, a, b, d, r⟩ => ⟨c, a, b, d, r.keeps k⟩⟩

theorem UpdF.same {d : Addr} {o : Obj} {news : List (Addr × Obj)} {g : Obj → List (Addr × Obj)} (U : UpdF d o news g) : g o = news := by
  obtain ⟨pre, post, rfl, hg, _⟩ := U.split
  exact hg o
theorem UpdF.addr {d : Addr} {o o' : Obj} {news : List (Addr × Obj)} {g : Obj → List (Addr × Obj)} (U : UpdF d o news g) {q : Addr × Obj} (hq : q ∈ g o') : ∃ q' ∈ news, q'.1 = q.1 := by
  obtain ⟨pre, post, rfl, hg, _⟩ := U.split
  rw [hg] at hq
  rcases List.mem_append.mp hq with h | h
  · exact ⟨q, List.mem_append_left _ h, rfl⟩
  · rcases List.mem_cons.mp h with rfl | h
    · exact ⟨(d, o), List.mem_append_right _ (.head _), rfl⟩
    · exact ⟨q, List.mem_append_right _ (.tail _ h), rfl⟩

theorem ent_ground {h g h₀ : Heap} {L : Addr} {ql : Str} {c : Addr} {led : List (Addr × Obj)} (hg : ∀ b o, h.get? b = some o → b ∉ led.map (·.1) → g.get? b = some o) (N : News h₀ L h led)
    (hd : ∀ p ∈ led, p.1 = 139 ∨ ∀ vs, p.2.data ≠ .fields vs) (hc : c ≠ 139) (r : h.CodeRec (.ref c) ql) : g.CodeRec (.ref c) ql := by
  obtain ⟨c₂, oc, vs, t, e2, hoc, hda, hv⟩ := r
  cases e2
  refine ⟨c, oc, vs, t, rfl, hg _ _ hoc fun hm => ?_, hda, hv⟩
  obtain ⟨p, hp, e⟩ := List.mem_map.mp hm
  rcases hd p hp with q | q
  · exact hc (e.symm.trans q)
  · have z := (N p hp).1
    rw [e, hoc] at z
    exact q vs (by rw [← Option.some.inj z]; exact hda)
theorem tabInv_led {base h g h₀ : Heap} {L : Addr} {ql : Str} {p₁ p₂ : Pos} {ps : Array Value} {led : List (Addr × Obj)} (hg : ∀ b o, h.get? b = some o → b ∉ led.map (·.1) → g.get? b = some o) (N : News h₀ L h led)
    (hd : ∀ p ∈ led, p.1 = 139 ∨ ∀ vs, p.2.data ≠ .fields vs) (TI : TabInv base h ql p₁ p₂ ps) : TabInv base g ql p₁ p₂ ps :=
  ⟨TI.ok, TI.one.imp_right fun ⟨c, a, b, d, r⟩ => ⟨c, a, b, d, ent_ground hg N hd b r⟩, TI.two.imp_right fun ⟨c, a, b, d, r⟩ => ⟨c, a, b, d, ent_ground hg N hd b r⟩⟩
theorem tabInv_ground {base h g h₀ : Heap} {L q qd rw src d1 : Addr} {ql : Str} {p₁ p₂ : Pos} {ps : Array Value} {es : List DictEntry} {n1 n2 n3 : Nat} {vs ws : Array Value}
    (hg : ∀ b o, h.get? b = some o → b ∉ [(q, instObj 98 d1), (qd, dictOf es n1), (rw, listOf vs n2), (src, listOf ws n3), (139, tabObj ps)].map (·.1) → g.get? b = some o)
    (N : News h₀ L h [(q, instObj 98 d1), (qd, dictOf es n1), (rw, listOf vs n2), (src, listOf ws n3), (139, tabObj ps)]) (TI : TabInv base h ql p₁ p₂ ps) : TabInv base g ql p₁ p₂ ps :=
  tabInv_led hg N (by
    intro p hp
    simp only [List.mem_cons, List.not_mem_nil, or_false] at hp
    rcases hp with rfl | rfl | rfl | rfl | rfl
    · exact .inr fun _ e => nomatch e
    · exact .inr fun _ e => nomatch e
    · exact .inr fun _ e => nomatch e
    · exact .inr fun _ e => nomatch e
    · exact .inl rfl) TI

section
variable {M : Model} {A : Around} {E : Value → Shared → Prop} {s : Shared} {h₀ base : Heap} {L a c P : Addr} {m mg mb : Str → Option Value} {cn : Str} {cs : Scope} {cl : List (Str × Addr)} {news : List (Addr × Obj)} {g : Obj → List (Addr × Obj)}
  {p : Program} {loose : List Str} {mean : ExcName → Option Value} {name qual : Str} {params : Arguments} {body : Expr} {scope : Scope} {ps : Array Value} {pos p₁ p₂ : Pos} {firstLine : Nat} {clos : List (Str × Addr)}
theorem lam_rule {Q : Value → Shared → Prop} (F : Fr h₀ L s.heap m) (N : News h₀ L s.heap news) (T : Top p loose mean mg mb h₀) (C : CodeHd h₀ c 139) (U : UpdF 139 (tabObj ps) news g) (bs : base.StaysIn h₀)
    (TI : TabInv base h₀ qual p₁ p₂ ps) (hne : ¬ (p₁.line = p₂.line ∧ p₁.col = p₂.col)) (hpos : pos = p₁ ∨ pos = p₂) (hcl : closureFor scope (envX cn cs L a (.ref c) cl) = pure clos)
    (h : ∀ f c' ctv h' tk ps', Fr h₀ L h' m → News h₀ L h' ((f, kla_obj name qual params body scope clos ((mg "__name__").getD .none) c' ctv) :: g (tabObj ps')) → TabInv base h' qual p₁ p₂ ps' → h'.CodeRec (.ref c') qual →
      c' ∉ ((f, kla_obj name qual params body scope clos ((mg "__name__").getD .none) c' ctv) :: g (tabObj ps')).map (·.1) → (∀ q ∈ news, q.1 < f) → Q (.ref f) { s with heap := h', toks := tk }) :
    wpAny M A (makeFunction name qual params (.expr body) scope (envX cn cs L a (.ref c) cl) [] [] [] pos firstLine) Q E s := by
  have key : codeAmong pos ps.toList = none ∨ ∃ c, codeAmong pos ps.toList = some (.ref c) ∧ c ≠ 139 ∧ base.get? c = none ∧ h₀.CodeRec (.ref c) qual := by
    rcases hpos with rfl | rfl
    · exact TI.one
    · exact TI.two
  rcases key with hn | ⟨c', hc, hc139, hcb, hrec⟩
  · refine kla_nest F N T C rfl U TI.ok hn hcl fun f c' oc vs t ctv h' tk F' N' hd hv l1 l2 => ?_
    have hN := N' (c', oc) (.tail _ (.head _))
    have hrc : h'.CodeRec (.ref c') qual := ⟨c', oc, vs, t, rfl, hN.1, hd, hv⟩
    have hb' : base.get? c' = none := fresh_of_stays bs hN.2.2
    have hc9 : c' ≠ 139 := Nat.ne_of_gt (l1 _ (UpdF.mem U))
    have TI' := TI.keeps F'.keep
    have el : (ps ++ #[rawInt pos.line, rawInt pos.col, .ref c']).toList = ps.toList ++ [rawInt pos.line, rawInt pos.col, .ref c'] := by simp
    refine h f c' ctv h' tk (ps ++ #[rawInt pos.line, rawInt pos.col, .ref c']) F' (fun q hq => N' q ?_) ⟨?_, ?_, ?_⟩ hrc ?_ (fun q hq => Nat.lt_trans (l1 q hq) l2)
    · rcases List.mem_cons.mp hq with rfl | hq
      · exact .head _
      · exact .tail _ (.tail _ hq)
    · rw [el]; exact triples_snoc _ TI.ok
    · rcases hpos with rfl | rfl
      · exact .inr ⟨c', by rw [el]; exact codeAmong_snoc _ TI.ok hn, hc9, hb', hrc⟩
      · rw [el, among_snoc_ne (fun e => hne ⟨e.1.symm, e.2.symm⟩) _ TI.ok]; exact TI'.one
    · rcases hpos with rfl | rfl
      · rw [el, among_snoc_ne hne _ TI.ok]; exact TI'.two
      · exact .inr ⟨c', by rw [el]; exact codeAmong_snoc _ TI.ok hn, hc9, hb', hrc⟩
    · intro hm
      obtain ⟨q, hq, e⟩ := List.mem_map.mp hm
      rcases List.mem_cons.mp hq with rfl | hq
      · exact absurd e (Nat.ne_of_gt l2)
      · obtain ⟨q', hq', e'⟩ := UpdF.addr U hq
        exact absurd (e'.trans e) (Nat.ne_of_lt (l1 q' hq'))
  · refine kla_hit F N T C rfl (UpdF.mem U) TI.ok hc hcl fun f ctv h' tk F' N' l1 => ?_
    obtain ⟨c₂, oc, vs, t, e2, hoc, hd, hv⟩ := id hrec
    cases e2
    have eg := UpdF.same U
    refine h f c' ctv h' tk ps F' (by rw [eg]; exact N') (TI.keeps F'.keep) (hrec.keeps F'.keep) (fun hm => ?_) l1
    rw [eg] at hm
    obtain ⟨q, hq, e⟩ := List.mem_map.mp hm
    have z := (N' q hq).2.2
    rw [e, hoc] at z
    cases z
end
end Mine

namespace Mine
theorem top_off_SX : True := by
  w_top off
  trivial
section
variable {prog : Program} {w : World} {A : Around} {E : Value → Shared → Prop} {s : Shared} {h₀ : Heap} {L D b : Addr} {m : Str → Option Value} {news : List (Addr × Obj)} {n n2 : Nat} {its2 : Array Value} {us : List Value} {ns ms : List Int} {g : Obj → List (Addr × Obj)}
theorem ext_call {Q : Value → Shared → Prop} (F : Fr h₀ L s.heap m) (N : News h₀ L s.heap news) (hb : (b, listOf its2 n2) ∈ news) (U : UpdF D (listOf us.toArray n) news g) (hi : IntsAre us ns) (hj : IntsAre its2.toList ms) (hz : ns.length + ms.length ≤ 1000)
    (h : ∀ h' n' us', Fr h₀ L h' m → News h₀ L h' (g (listOf (List.toArray us') n')) → IntsAre us' (ns ++ ms) → Q .none { s with heap := h' }) :
    wpAny (model prog w) A (call (.builtin "list.extend") [.ref D, .ref b]) Q E s := by
  have hbN := (N _ hb).1
  obtain ⟨pre, post, rfl, hg, a, c⟩ := U.split
  have e1 := hi.length
  have e2 := hj.length
  rw [Array.length_toList] at e2
  refine extend_in (hsz := by rw [sizeLine_eq]; omega) F N a c hbN fun h' n' F' N' => h h' n' _ F' (by rw [hg]; exact N') (hi.append hj)
theorem pop0_call {u : Tok} {Q : Value → Shared → Prop} (F : Fr h₀ L s.heap m) (N : News h₀ L s.heap news) (U : UpdF D (listOf us.toArray n) news g) (hi : IntsAre us ns) (hne : 0 < ns.length) (hz : ns.length ≤ 1000)
    (h : ∀ h' n' us' x t, Fr h₀ L h' m → News h₀ L h' (g (listOf (List.toArray us') n')) → IntsAre us' (ns.drop 1) → Q (.int x t) { s with heap := h' }) :
    wpAny (model prog w) A (call (.builtin "list.pop") [.ref D, .int 0 u]) Q E s := by
  obtain ⟨pre, post, rfl, hg, a, c⟩ := U.split
  cases hi with
  | nil => simp at hne
  | cons k t r =>
    rename_i us' ns'
    have z := N (D, listOf (Value.int k t :: us').toArray n) (List.mem_append.mpr (.inr (.head _)))
    have hl := r.length
    have hz' : (Value.int k t :: us').toArray.size ≤ sizeLine := by rw [List.size_toArray, sizeLine_eq, List.length_cons]; rw [List.length_cons] at hz; have hl2 : us'.length = ns'.length := hl; omega
    refine call_meets PySem.F.slot_list_pop ⟨_, z.1, rfl⟩ PySem.F.entry_list_pop (PySem.F.args_list_pop_2 _ _) (PySem.MeetsSeq.list_pop_at D _ n 0 u 0 (.int k t) (by rfl) (by simp [seqIndex?]) (by simp) hz')
      ⟨z.1, h _ (n + 1) us' k t (F.change (Heap.SameBut.update ..) z.2.1 z.2.2) ?_ r⟩
    rw [hg]
    refine kl_turn _ N a c ?_ ?_
    · exact kl_erase [] us' (.int k t)
    · simp
end
end Mine

namespace Mine
theorem top_off_SY : True := by
  w_top off
  trivial
section
variable {prog : Program} {w : World} {A : Around} {E : Value → Shared → Prop} {s : Shared} {env : Env} {h₀ : Heap} {x : Str} {body : List Stmt} {Q : Flow → Shared → Prop}
structure PopJ (G : Obj → List (Addr × Obj)) (x : Str) (m₀ : Str → Option Value) (ns : List Int) (m₁ : Str → Option Value) (nx : List (Addr × Obj)) : Prop where
  ex : ∃ us c, nx = G (listOf (List.toArray us) c) ∧ IntsAre us ns
  same : ∀ z, z ≠ x → m₁ z = m₀ z
theorem PopJ.intro {G : Obj → List (Addr × Obj)} {x : Str} {m₀ m₁ : Str → Option Value} {ns : List Int} {us : List Value} {c : Nat} (hi : IntsAre us ns) (hm : ∀ z, z ≠ x → m₁ z = m₀ z) : PopJ G x m₀ ns m₁ (G (listOf us.toArray c)) := ⟨⟨us, c, rfl, hi⟩, hm⟩
theorem PopJ.of {h : Heap} {L rw : Addr} {led : List (Addr × Obj)} {G : Obj → List (Addr × Obj)} {x : Str} {m₀ m₁ : Str → Option Value} {ns : List Int} {us : List Value} {c : Nat} (N : News h₀ L h led) (hm : (rw, listOf us.toArray c) ∈ led) (hi : IntsAre us ns) (hm : ∀ z, z ≠ x → m₁ z = m₀ z) :
    PopJ G x m₀ ns m₁ (G (listOf us.toArray c)) := .intro hi hm
theorem iter_pops {r rw : Addr} {near : Int} {t₀ u₀ v₀ : Tok} {m₀ : Str → Option Value} {news : List (Addr × Obj)} {G : Obj → List (Addr × Obj)} {vs : List Value} {ns : List Int} {c : Nat}
    (hh : A.handled = none) (hr : IsRange s.heap r 0 near 1 t₀ u₀ v₀) (g0 : 0 ≤ near) (gm : near ≤ (ns.length : Int)) (hz : ns.length ≤ 100) (F : Fr h₀ env.locals s.heap m₀) (N : News h₀ env.locals s.heap news)
    (U : UpdF rw (listOf vs.toArray c) news G) (hI : IntsAre vs ns)
    (turn : ∀ k t us c' ns' h tk own, 0 < ns'.length → ns'.length ≤ ns.length → IntsAre us ns' → OwnOff own (news.map (·.1)) → Fr h₀ env.locals h (fun y => if y = x then some (.int k t) else m₀ y) → News h₀ env.locals h (G (listOf (List.toArray us) c') ++ own) →
      wpAny (model prog w) A (execs body env) (InvPostN h₀ env.locals (PopJ G x m₀ (ns'.drop 1)) own (news.map (·.1)) { s with heap := h, toks := tk } Q) E { s with heap := h, toks := tk })
    (done : ∀ m₁ us c' h tk, IntsAre us (ns.drop near.toNat) → (∀ z, z ≠ x → m₁ z = m₀ z) → Fr h₀ env.locals h m₁ → News h₀ env.locals h (G (listOf (List.toArray us) c')) → Q .next { s with heap := h, toks := tk }) :
    wpAny (model prog w) A (pyIter (.ref r)) (fun it s₂ => LoopAtV prog w A h₀ env x body Q E it s₂) E s := by
  have hn : Builtin.Range.rangeSize 0 near 1 = ((near.toNat : Nat) : Int) := by rw [rangeSize_nat]; simp
  refine wpAny_pyIter_range hr (small_one (by omega) (by omega) (by omega) (by omega)) ?_
  have hI1 : ∀ p ∈ news, p.1 ∉ [s.heap.objs.size] := fun p hp hm => absurd (Heap.lt_size (N p hp).1) (by rw [List.mem_singleton.mp hm]; exact Nat.lt_irrefl _)
  refine loop_invN (fun i m nx => PopJ G x m₀ (ns.drop i) m nx) (LCg.range_walks hh (I := s.heap.objs.size) 0 near.toNat) (fun hm => absurd F.ns.lt (by rw [List.mem_singleton.mp hm]; exact Nat.lt_irrefl _))
    (fun b hb => by rw [List.mem_singleton.mp hb]; exact next_is_new F) hI1 hI1 (by show IsRangeIter _ _ _ _ _; rw [hn]; simpa using Heap.get?_push_size _ rfl) (F.push _) (fun p hp => ⟨Heap.get?_push_of_some _ (N p hp).1, (N p hp).2⟩)
    ⟨⟨vs, c, (UpdF.same U).symm, hI⟩, fun _ _ => rfl⟩ ?_ ?_
  · rintro i v m₁ nx h tk own hi ⟨t, rfl⟩ _ hoff ⟨⟨us, c', rfl, hu⟩, hm⟩ F₁ N₁
    have e : (fun y => if y = x then some (Value.int (0 + (i : Int)) t) else m₁ y) = fun y => if y = x then some (Value.int (0 + (i : Int)) t) else m₀ y := by
      funext y
      by_cases hy : y = x
      · rw [if_pos hy, if_pos hy]
      · rw [if_neg hy, if_neg hy]; exact hm y hy
    rw [e] at F₁
    have := turn (0 + (i : Int)) t us c' (ns.drop i) h tk own (by rw [List.length_drop]; omega) (by rw [List.length_drop]; omega) hu hoff F₁ N₁
    rwa [List.drop_drop] at this
  · rintro m₁ nx h tk ⟨⟨us, c', rfl, hu⟩, hm⟩ F₁ N₁
    exact done m₁ us c' h tk hu hm F₁ N₁

variable {A : Around} {L : Addr} {m : Str → Option Value} {elt : Expr} {scope : Scope} {cl : List (Str × Addr)} {S : List (Addr × Obj) → Prop} {Fin : List Value → List (Addr × Obj) → Prop} {news : List (Addr × Obj)}
theorem row_part {near : Int} {n : Nat} {ns : List Int} (g0 : 0 ≤ near) (gm : near + (n : Int) ≤ (ns.length : Int)) : (rangeKs 0 n).map (fun k => ns.getD (near + k).toNat 0) = (ns.drop near.toNat).take n := by
  apply List.ext_getElem
  · rw [List.length_map, rangeKs_length, List.length_take, List.length_drop]; omega
  · intro i h1 h2
    rw [List.length_map, rangeKs_length] at h1
    rw [List.getElem_map, List.getElem_take, List.getElem_drop]
    have e : (rangeKs 0 n)[i]'(by rw [rangeKs_length]; exact h1) = (i : Int) := by simp [rangeKs]
    rw [e, List.getD_eq_getElem?_getD, List.getElem?_eq_getElem (by omega)]
    have e2 : (near + (i : Int)).toNat = near.toNat + i := by omega
    simp only [e2, Option.getD_some]
theorem comp_row {near many : Int} {l1 l2 : List Int} {ns : List Int} (hn : near ∈ (-1 :: 0 :: 0 :: l1)) (hm : many ∈ (0 :: 1 :: 2 :: -1 :: l2)) (g0 : 0 ≤ near) (m0 : 0 ≤ many) (gm : near + many ≤ (ns.length : Int))
    (turn : ∀ k t I oI C oC D m₂ ys h tk (E' : Value → Shared → Prop), 0 ≤ k → near + k < (ns.length : Int) → LCg.NsObj oC m₂ → m₂ x = some (.int k t) → Fr h₀ L h m → News h₀ L h ((I, oI) :: (C, oC) :: (D, LCg.lst ys) :: news) → LCg.Off3 I C D news → ((@Ne Nat I C) ∧ (@Ne Nat I D) ∧ (@Ne Nat C D)) → KPfMark →
      wpAny (model prog w) A (eval elt (compEnvC scope cl C env)) (LCg.CompEnd h₀ L m { s with heap := h, toks := tk } I oI C oC D (LCg.lst ys) S (fun y news' => KCfEl news (ns.getD (near + k).toNat 0) y news')) E' { s with heap := h, toks := tk })
    (fin : ∀ ys, IntsAre ys ((ns.drop near.toNat).take many.toNat) → Fin ys news) : LCg.CompRest prog w A h₀ L m env elt x scope cl s S (fun i v => ∃ t, v = .int (0 + (i : Int)) t) Fin (many - 0).toNat 0 [] news := by
  refine kcf_range (fun k => ns.getD (near + k).toNat 0) (fun k t I oI C oC D m₂ ys h tk E' h1 h2 => turn k t I oI C oC D m₂ ys h tk E' h1 (by omega)) (by unfold KPfDone; intro ys hy; rw [row_part g0 (by omega)] at hy; exact fin ys (by rwa [Int.sub_zero] at hy))
end
end Mine

namespace Mine
theorem top_off_SE : True := by
  w_top off
  trivial
structure CutIs (P : Prop) (s : Shared) (b : Bool) (s' : Shared) : Prop where
  iff : b = true ↔ P
  st : ∃ tk, s' = { s with toks := tk }
theorem cut_or {M : Model} {A : Around} {E : Value → Shared → Prop} {s : Shared} {Q : Bool → Shared → Prop} {x : Sem Bool} (P : Prop) (h : wpAny M A x (CutIs P s) E s) (k1 : ∀ tk, P → Q true { s with toks := tk }) (k2 : ∀ tk, ¬ P → Q false { s with toks := tk }) : wpAny M A x Q E s :=
  wpAny_mono h (fun b s' c => by
    obtain ⟨i, tk, rfl⟩ := c
    cases b with
    | true => exact k1 tk (i.mp rfl)
    | false => exact k2 tk fun p => nomatch i.mpr p) fun _ _ e => e
theorem cut3 {M : Model} {A : Around} {E : Value → Shared → Prop} {s : Shared} {Q : Bool → Shared → Prop} {x : Sem Bool} {near many : Int} {l1 l2 : List Int} {ns : List Int} (hn : near ∈ (-1 :: 0 :: 0 :: l1)) (hm : many ∈ (0 :: 1 :: 2 :: -1 :: l2))
    (h : wpAny M A x (CutIs (near < 0 ∨ many < 0 ∨ (ns.length : Int) < near + many) s) E s) (k1 : ∀ tk, (near < 0 ∨ many < 0 ∨ (ns.length : Int) < near + many) → Q true { s with toks := tk })
    (k2 : ∀ tk, 0 ≤ near → 0 ≤ many → near + many ≤ (ns.length : Int) → Q false { s with toks := tk }) : wpAny M A x Q E s :=
  cut_or _ h k1 fun tk n => k2 tk (by omega) (by omega) (by omega)
theorem cut2 {M : Model} {A : Around} {E : Value → Shared → Prop} {s : Shared} {Q : Bool → Shared → Prop} {x : Sem Bool} {near : Int} {l1 : List Int} {ns : List Int} (hn : near ∈ (-1 :: 0 :: 0 :: l1))
    (h : wpAny M A x (CutIs (near < 0 ∨ (ns.length : Int) < near) s) E s) (k1 : ∀ tk, (near < 0 ∨ (ns.length : Int) < near) → Q true { s with toks := tk })
    (k2 : ∀ tk, 0 ≤ near → near ≤ (ns.length : Int) → Q false { s with toks := tk }) : wpAny M A x Q E s :=
  cut_or _ h k1 fun tk n => k2 tk (by omega) (by omega)

theorem in_app {a b : List Int} (h : KBa.In a) (k : KBa.In b) : KBa.In (a ++ b) := fun x hx => (List.mem_append.mp hx).elim (h x) (k x)
theorem in_take {a : List Int} {n : Nat} (h : KBa.In a) : KBa.In (a.take n) := fun x hx => h x (List.mem_of_mem_take hx)
theorem in_drop {a : List Int} {n : Nat} (h : KBa.In a) : KBa.In (a.drop n) := fun x hx => h x (List.mem_of_mem_drop hx)

section
variable {h h' h₁ g h₀ base : Heap} {L L' : Addr} {m m₁ : Str → Option Value} {fs : List Addr} {led led₁ : List (Addr × Obj)} {q qd rw src P c : Addr} {o1 o2 o3 o4 o5 : Obj} {ql : Str} {p₁ p₂ : Pos} {ps : Array Value}
theorem right_fin (hg : ∀ b o, h.get? b = some o → b ∉ [(q, o1), (qd, o2), (rw, o3), (src, o4), (P, o5)].map (·.1) → g.get? b = some o) (N : News h₀ L h [(q, o1), (qd, o2), (rw, o3), (src, o4), (P, o5)]) (F' : Fr g L' h' m₁) (N' : News g L' h' led) (hq : (q, o1) ∈ led) :
    KeepS fs [src, rw, qd, P] h h' := by
  have key : ∀ b o, h.get? b = some o → b ∉ [src, rw, qd, P] → h'.get? b = some o := fun b o e nm => by
    by_cases hb : b = q
    · subst hb
      have e1 := (N _ (.head _)).1
      rw [e] at e1
      cases e1
      exact (N' _ hq).1
    · refine F'.keep _ _ (hg b o e ?_)
      simp only [List.mem_cons, List.not_mem_nil, or_false, List.map_cons, List.map_nil] at nm ⊢
      rintro (z | z | z | z | z)
      · exact hb z
      · exact nm (.inr (.inr (.inl z)))
      · exact nm (.inr (.inl z))
      · exact nm (.inl z)
      · exact nm (.inr (.inr (.inr z)))
  exact ⟨fun b o e nm _ => key b o e nm, fun b o e nm _ => ⟨o.slots, key b o e nm⟩⟩

/-- the frames' places are not among the new objects -/
theorem news_off (D : KtsDicts fs g) (N₁ : News g L' h₁ led₁) {p : Addr × Obj} (hp : p ∈ led₁) : p.1 ∉ L' :: fs := by
  have n := N₁ p hp
  intro hm
  rcases List.mem_cons.mp hm with z | z
  · exact n.2.1 z
  · obtain ⟨o, es, k, ho, _⟩ := D _ z
    rw [n.2.2] at ho; cases ho
theorem keepS_news (D : KtsDicts fs g) (N₁ : News g L' h₁ led₁) (K : KeepS (L' :: fs) [] h₁ h') {p : Addr × Obj} (hp : p ∈ led₁) : h'.get? p.1 = some p.2 :=
  K.same _ _ (N₁ p hp).1 (List.not_mem_nil) (news_off D N₁ hp)
theorem keepS_at (D : KtsDicts fs g) (N₁ : News g L' h₁ led₁) (K : KeepS (L' :: fs) [] h₁ h') {a : Addr} {o : Obj} (hp : (a, o) ∈ led₁) : h'.get? a = some o := keepS_news D N₁ K hp
theorem right_finS (hL : L' = h.objs.size) (hg : ∀ b o, h.get? b = some o → b ∉ [(q, o1), (qd, o2), (rw, o3), (src, o4), (P, o5)].map (·.1) → g.get? b = some o) (N : News h₀ L h [(q, o1), (qd, o2), (rw, o3), (src, o4), (P, o5)]) (D : KtsDicts fs g)
    (F₁ : Fr g L' h₁ m₁) (N₁ : News g L' h₁ led₁) (hq : (q, o1) ∈ led₁) (K : KeepS (L' :: fs) [] h₁ h') : KeepS fs [src, rw, qd, P] h h' := by
  have K1 : KeepS fs [src, rw, qd, P] h h₁ := right_fin hg N F₁ N₁ hq
  have hq' := keepS_news D N₁ K hq
  have lt : ∀ b o, h.get? b = some o → b ≠ L' := fun b o e => by rw [hL]; exact Nat.ne_of_lt (Heap.lt_size e)
  have up : ∀ b o, h.get? b = some o → b ∉ [src, rw, qd, P] → h₁.get? b = some o := fun b o e nm => by
    by_cases hb : b ∈ fs
    · have := K1.slot b o e nm hb
      by_cases hbq : b = q
      · subst hbq
        have e1 := (N _ (.head _)).1
        rw [e] at e1
        cases e1
        exact (N₁ _ hq).1
      · refine F₁.keep _ _ (hg b o e ?_)
        simp only [List.mem_cons, List.not_mem_nil, or_false, List.map_cons, List.map_nil] at nm ⊢
        rintro (z | z | z | z | z)
        · exact hbq z
        · exact nm (.inr (.inr (.inl z)))
        · exact nm (.inr (.inl z))
        · exact nm (.inl z)
        · exact nm (.inr (.inr (.inr z)))
    · exact K1.same b o e nm hb
  refine ⟨fun b o e nm nf => K.same _ _ (up b o e nm) List.not_mem_nil ?_, fun b o e nm mf => K.slot _ _ (up b o e nm) List.not_mem_nil (.tail _ mf)⟩
  intro hm
  rcases List.mem_cons.mp hm with z | z
  · exact lt b o e z
  · exact nf z
theorem rec_keepS (D : KtsDicts fs g) (F₁ : Fr g L' h₁ m₁) (K : KeepS (L' :: fs) [] h₁ h') (r : h₁.CodeRec (.ref c) ql) : h'.CodeRec (.ref c) ql := by
  obtain ⟨c₂, oc, vs, t, e2, hoc, hda, hv⟩ := r
  cases e2
  refine ⟨c, oc, vs, t, rfl, K.same _ _ hoc List.not_mem_nil fun hm => ?_, hda, hv⟩
  rcases List.mem_cons.mp hm with z | z
  · obtain ⟨oL, es, ep, hoL, hdL, _⟩ := F₁.ns
    rw [z, hoL] at hoc
    cases hoc
    rw [hda] at hdL; cases hdL
  · obtain ⟨o, es, k, ho, hd⟩ := D _ z
    have := F₁.keep _ _ ho
    rw [hoc] at this
    cases this
    rw [hda] at hd; cases hd
theorem tabInv_keepS (D : KtsDicts fs g) (F₁ : Fr g L' h₁ m₁) (K : KeepS (L' :: fs) [] h₁ h') (x : TabInv base h₁ ql p₁ p₂ ps) : TabInv base h' ql p₁ p₂ ps :=
  ⟨x.ok, x.one.imp_right fun ⟨c, a, b, d, r⟩ => ⟨c, a, b, d, rec_keepS D F₁ K r⟩, x.two.imp_right fun ⟨c, a, b, d, r⟩ => ⟨c, a, b, d, rec_keepS D F₁ K r⟩⟩
end
end Mine

namespace Mine
theorem top_off_S8 : True := by
  w_top off
  trivial
local macro_rules | `(tactic| k_room) => `(tactic| ((try simp only [depth_mark, depth_under_make, depth_under_kw, depth_in1, depth_deeper, depth_caller]); (try dsimp only); omega))
local macro_rules | `(tactic| k_units) => `(tactic| ((try simp only [units_in1, units_deeper, Around.mark_units]); (try dsimp only); omega))
local macro_rules | `(tactic| walk_at "call ref") => `(tactic| (k_here; (with_reducible show wpAny _ _ (PySem.call (Value.ref 116) _) _ _ _); k_dflt (first | (refine' take_call ?B ?F ?X ?T ?N ?U ?hf ?hke ?hd ?hu ?ha ?hb0 ?hb1 ?t0 ?t1 ?_; (case B => k_asm); (case F => k_asm); (case X => k_asm); (case T => k_asm); (case N => k_asm); (case U => k_updF); (case hf => exact rfl); (case hke => exact rfl); (case hd => k_room); (case hu => (dsimp only; omega)); (case ha => omega); (case hb0 => omega); (case hb1 => omega); (case t0 => omega); (case t1 => omega); k_whole) | refine stuck ?_); intro h' tk' r' t' a' b' ta' tb' n' F' N' r0' r1' a0' a1' b0' b1'; (try k_sweep)))
local macro_rules | `(tactic| walk_at "call ref") => `(tactic| (k_here; (with_reducible show wpAny _ _ (PySem.call (Value.ref 123) _) _ _ _); k_dflt (first | (refine' one_callB (-30) 30 ?B ?F ?X ?T ?N ?hth ?U ?hst ?hI ?hall ?hn0 ?hn1 ?hf ?hke ?hd ?hu ?ha ?hb0 ?hb1 ?_; (case B => k_asm); (case F => k_asm); (case X => k_asm); (case T => k_asm); (case N => k_asm); (case hth => k_mem); (case U => k_updF); (case hst => omega); (case hI => l_intsW); (case hall => (simp only [List.forall_mem_cons, List.not_mem_nil, false_implies, implies_true, and_true]; omega)); (case hn0 => simp); (case hn1 => simp); (case hf => exact rfl); (case hke => exact rfl); (case hd => k_room); (case hu => (dsimp only; omega)); (case ha => omega); (case hb0 => omega); (case hb1 => omega); k_whole) | (refine' one_callB (-100) 100 ?B ?F ?X ?T ?N ?hth ?U ?hst ?hI ?hall ?hn0 ?hn1 ?hf ?hke ?hd ?hu ?ha ?hb0 ?hb1 ?_; (case B => k_asm); (case F => k_asm); (case X => k_asm); (case T => k_asm); (case N => k_asm); (case hth => k_mem); (case U => k_updF); (case hst => omega); (case hI => l_intsW); (case hall => (simp only [List.forall_mem_cons, List.not_mem_nil, false_implies, implies_true, and_true]; omega)); (case hn0 => simp); (case hn1 => simp); (case hf => exact rfl); (case hke => exact rfl); (case hd => k_room); (case hu => (dsimp only; omega)); (case ha => omega); (case hb0 => omega); (case hb1 => omega); k_whole) | refine stuck ?_); intro h' tk' r' t' a' b' ta' tb' n' F' N' hx' r0' r1' a0' b0' b1'; (try k_sweep)))
local macro_rules | `(tactic| walk_at "call ref") => `(tactic| (k_here; (with_reducible show wpAny _ _ (PySem.call (Value.ref 81) _) _ _ _); k_dflt (first | (refine' put_call ?B ?F ?X ?T ?N ?hq ?U ?hst ?hB ?hO ?hn1 ?hf1 ?hro ?hro' ?hf ?hke ?hd ?hu ?_; (case B => k_asm); (case F => k_asm); (case X => k_asm); (case T => k_asm); (case N => k_asm); (case hq => k_mem); (case U => k_updF); (case hst => omega); (case hB => assumption); (case hO => kba_ints2); (case hn1 => omega); (case hf1 => kba_size); (case hro => omega); (case hro' => omega); (case hf => exact rfl); (case hke => exact rfl); (case hd => k_room); (case hu => (dsimp only; omega)); k_whole) | refine stuck ?_); intro h' tk' t' hb' tb' F' N' hB'; (try k_sweep)))
local macro_rules | `(tactic| walk_at "call ref") => `(tactic| (k_here; (with_reducible show wpAny _ _ (PySem.call (Value.ref 88) _) _ _ _); k_dflt (first | (refine' part_call ?B ?F ?X ?T ?N ?hq ?hqd ?hst ?hB ?hn1 ?ha ?hm ?ham ?hf ?hke ?hd ?hu ?_; (case B => k_asm); (case F => k_asm); (case X => k_asm); (case T => k_asm); (case N => k_asm); (case hq => k_mem); (case hqd => k_mem); (case hst => omega); (case hB => assumption); (case hn1 => omega); (case ha => omega); (case hm => omega); (case ham => omega); (case hf => exact rfl); (case hke => exact rfl); (case hd => k_room); (case hu => (dsimp only; omega)); k_whole) | refine stuck ?_); intro h' tk' t' pb' F' N' hP'; (try k_sweep)))
local macro_rules | `(tactic| walk_at "call ref") => `(tactic| (k_here; (with_reducible show wpAny _ _ (PySem.call (Value.ref 95) _) _ _ _); k_dflt (first | (refine' drop_call ?B ?F ?X ?T ?N ?hq ?U ?hst ?hB ?hn1 ?hm ?ham ?hf ?hke ?hd ?hu ?_; (case B => k_asm); (case F => k_asm); (case X => k_asm); (case T => k_asm); (case N => k_asm); (case hq => k_mem); (case U => k_updF); (case hst => omega); (case hB => assumption); (case hn1 => omega); (case hm => omega); (case ham => omega); (case hf => exact rfl); (case hke => exact rfl); (case hd => k_room); (case hu => (dsimp only; omega)); k_whole) | refine stuck ?_); intro h' tk' hb' tb' F' N' hB'; (try k_sweep)))
local macro_rules | `(tactic| walk_at "eval Lambda") => `(tactic| (k_here; k_dflt (refine' kla_eval ?d0 ?_; (case d0 => exact rfl)); k_dflt (refine' lam_rule ?F ?N ?T ?C ?U ?bs ?TI ?hne ?hpos ?cl ?_; (case F => k_asm); (case N => k_asm); (case T => k_asm); (case C => assumption); (case U => k_updF); (case bs => exact Below.stays (by assumption)); (case TI => assumption); (case hne => decide); (case hpos => first | exact Or.inl rfl | exact Or.inr rfl); (case cl => exact rfl); k_whole); intro f' c' ctv' h' tk' ps' F' N' TI' hrc' hnc' l1; (try k_lt l1); (try dsimp only at N' hnc'); (try k_sweep)))

local macro_rules | `(tactic| walk_at "call type:bytes") => `(tactic| (k_here; (with_reducible show wpAny _ _ (PySem.call (Value.type "bytes") [Value.bytes _ _]) _ _ _); refine call_bytes_self ?_))
local macro_rules | `(tactic| walk_at "call builtin:list.extend") => `(tactic| (k_here; (with_reducible show wpAny _ _ (PySem.call (Value.builtin _) [Value.ref _, Value.ref _]) _ _ _); k_dflt (refine' ext_call ?F ?N ?hb ?U ?hi ?hj ?hz ?_; (case F => k_asm); (case N => k_asm); (case hb => k_mem); (case U => k_updF); (case hi => assumption); (case hj => assumption); (case hz => omega)); intro h' n' us' F' N' hI'; (try k_sweep)))
structure Mark1 : Prop
structure Mark2 : Prop
structure Mark3 : Prop
local macro_rules | `(tactic| walk_at "call ref") => `(tactic| (k_here; (have := (by with_reducible assumption : Mark3)); refine stuck ?_))
local macro_rules | `(tactic| walk_at "isTrue BoolOp") => `(tactic| ((fail_if_success (have := (by with_reducible assumption : Mark1))); refine stuck ?_))
local macro_rules | `(tactic| walk_at "exec For Name Call cons nil") => `(tactic| (refine stuck ?_))
local macro_rules | `(tactic| walk_at "eval ListComp") => `(tactic| (k_here; (with_reducible show wpAny _ _ (eval (Expr.ListComp (Expr.Subscript _ _ _) _ _ _) _) _ _ _); k_dflt (refine LCg.ListComp_U (F₀ := by k_asm) (by with_unfolding_all rfl) (by decide) (by rfl) (by decide) (by rfl) ?_)))
local macro_rules | `(tactic| walk_at "CompSrc") => `(tactic| ((have := (by with_reducible assumption : Mark2)); refine stuck ?_))
local macro_rules | `(tactic| walk_at "pyIter ref") => `(tactic| ((have := (by with_reducible assumption : Mark2)); refine stuck ?_))
local macro_rules | `(tactic| walk_at "call builtin:list.pop") => `(tactic| (k_here; (with_reducible show wpAny _ _ (PySem.call (Value.builtin _) [Value.ref _, Value.int 0 _]) _ _ _); k_dflt (refine' pop0_call ?F ?N ?U ?hi ?hn ?hz ?_; (case F => k_asm); (case N => k_asm); (case U => k_updF); (case hi => assumption); (case hn => assumption); (case hz => omega)); intro h' n' us' x' t' F' N' hI'; (try k_sweep)))

abbrev LQ : Str := (("_law_call_right" : Str) ++ ".<locals>.") ++ "<lambda>"
abbrev LP1 : Pos := ⟨78, 32, 78, 62⟩
abbrev LP2 : Pos := ⟨81, 28, 81, 52⟩
theorem right_spec {w : World} {A₀ : Around} {s : Shared} {base h₀ : Heap} {outer : List Env} {env : Env} {L : Addr} {m mg mb : Str → Option Value} {mean : ExcName → Option Value} {loose : List Str} {d u : Nat} {gs : Option (List Code)}
  {src q qd rw : Addr} {room cnt a b : Int} {h1 h2 : Int} {k1 k2 tr tb t3 t4 ta tb2 : Tok} {hb : Array UInt8} {c n : Nat} {vs : List Value} {ns : List Int} {ps : Array Value} {R : Result → Shared → Prop}
  (B : Below A₀ base outer h₀) (F : Fr h₀ L s.heap m) (X₀ : (hd.heap_39 w.params).In h₀) (T : Top topProg loose mean mg mb h₀)
  (N : News h₀ L s.heap [(q, instObj 98 qd), (qd, qDict h1 h2 k1 k2 room tr hb tb), (rw, listOf vs.toArray c), (src, listOf #[.int a ta, .int b tb2] n), (139, tabObj ps)])
  (o1 : @LT.lt Nat _ 139 src) (o2 : @LT.lt Nat _ src rw) (o3 : @LT.lt Nat _ rw qd) (o4 : @LT.lt Nat _ qd q)
  (C : CodeHd h₀ 141 139) (XB : (hd.heap_39 w.params).In base) (TB : Top topProg loose mean mg mb base) (D : KtsDicts (outer.filterMap (·.frame)) h₀) (TI : TabInv base s.heap LQ LP1 LP2 ps)
  (hI : IntsAre vs ns) (hB : KBw.bInts hb = ns) (hr : KBa.In ns) (hn1 : (ns.length : Int) ≤ room) (hro : 1 ≤ room) (hro' : room ≤ 9) (hc0 : 0 ≤ cnt) (hc1 : cnt ≤ 1000)
  (ha : 0 ≤ a) (hb0 : 0 ≤ b) (hb1 : b < 2147483647)
  (hf : env.frame = some L) (hke : env.scope.kind = .function) (hdep : d + 150 < recursionLimit) (hun : u + 1500 < cLine)
  (k : ∀ h' tk vs' ns' hb' tb' a' b' ta' tb2' n' c' ps', KeepS ((env :: outer).filterMap (·.frame)) [src, rw, qd, 139] s.heap h' →
    h'.get? qd = some (qDict h1 h2 k1 k2 room tr hb' tb') → h'.get? rw = some (listOf (List.toArray vs') c') → h'.get? src = some (listOf #[.int a' ta', .int b' tb2'] n') → h'.get? 139 = some (tabObj ps') →
    IntsAre vs' ns' → KBw.bInts hb' = ns' → KBa.In ns' → (ns'.length : Int) ≤ room → 0 ≤ a' → 0 ≤ b' → b' < 2147483647 → TabInv base h' LQ LP1 LP2 ps' → R (.ok (.ret (.bool true))) {s with heap := h', toks := tk}) :
  codeAny (model Challenge.rw_on0333_01.row.prog w) ⟨none, d, some (env :: outer), gs, u⟩ (.call (.ref 142) ⟨[.ref src, .ref q, .ref rw, .int room t3, .int cnt t4], []⟩) R s := by
  revert X₀; k_fill; intro X₀
  refine' code_defCS B F X₀ N T ?kA hf hke ?k6 ?k7 ?k8 ?k9 ?kB ?kD ?_ ?c2 ?c3 ?c4 (binds := [(Str.ofString "source", .ref src), (Str.ofString "queue", .ref q), (Str.ofString "row", .ref rw), (Str.ofString "room", .int room t3), (Str.ofString "counter", .int cnt t4)])
  case kA => exact rfl
  case k6 => k_is
  case k7 => k_is
  case k8 => k_room
  case k9 => exact BindsTo.of_eq rfl
  case kB => exact rfl
  case kD => decide +kernel
  case c2 => exact rfl
  case c3 => exact rfl
  case c4 => exact rfl
  intro g L' h' tk' cells' hg hL' FG F' N' Y' B' X' T' l1
  have Dg : KtsDicts ((env :: outer).filterMap (·.frame)) g := by
    intro b hb
    rcases kts_memX hf hb with rfl | hb
    · obtain ⟨oL, es, ep, hL, hda, _⟩ := FG.ns
      exact ⟨oL, es, ep, hL, hda⟩
    · obtain ⟨o, es, n, ho, hda⟩ := D b hb
      exact ⟨o, es, n, FG.keep _ _ ho, hda⟩
  have Cg : CodeHd g 141 139 := C.keeps FG.keep
  have TIg : TabInv base g LQ LP1 LP2 ps := tabInv_ground hg N TI
  clear FG TI C
  (try k_lt l1)
  obtain ⟨oN, oM, oC, oR, oQ, hE, d1, d2, d3, d4, d5⟩ := kc_five Y'
  subst hE
  clear Y'
  (try simp only [List.cons_append, List.nil_append] at N')
  replace d1 : oN.data = .cell none := d1.trans (congrArg Data.cell (by kernel_rfl))
  replace d2 : oM.data = .cell none := d2.trans (congrArg Data.cell (by kernel_rfl))
  replace d3 : oC.data = .cell (some (.int cnt t4)) := d3.trans (congrArg Data.cell (by kernel_rfl))
  replace d4 : oR.data = .cell (some (.ref rw)) := d4.trans (congrArg Data.cell (by kernel_rfl))
  replace d5 : oQ.data = .cell (some (.ref q)) := d5.trans (congrArg Data.cell (by kernel_rfl))
  rw [bindL_local, bindL_cell, bindL_cell, bindL_local, bindL_cell, bindL_nil] at F'
  rotate_left
  all_goals (first | kernel_rfl | skip)
  (try dsimp only)
  (try k_fold)
  k_steps
  · exact absurd rfl ‹_ ≠ _›
  · skip
    (try dsimp only)
    (try k_unfold)
    rename Fr g L' _ _ => FE
    rename News g L' _ _ => NE
    rename IntsAre _ (ns ++ _) => IE
    rename KBw.bInts _ = ns ++ _ => BE
    rename KBa.In (List.map _ _) => KE
    refine k _ _ _ _ _ _ _ _ _ _ _ _ _ (right_fin hg N FE NE (by k_mem)) (NE.get (by k_mem)) (NE.get (by k_mem)) (NE.get (by k_mem)) (NE.get (by k_mem)) IE BE (in_app hr (in_take KE)) ?_ (by assumption) (by assumption) (by assumption) (TIg.keeps FE.keep)
    rw [List.length_append, List.length_take]
    omega
  · refine ⟨?_⟩
    rename (_ ∈ ((-1 :: 0 :: 0 :: _) : List Int)) => hxn
    rename (_ ∈ ((0 :: 1 :: 2 :: -1 :: _) : List Int)) => hxm
    refine cut3 (ns := ns) hxn hxm ?_ (fun tk hbad => ?_) (fun tk g0 m0 gm => ?_)
    · have mk1 : Mark1 := ⟨⟩
      k_steps
      all_goals (try dsimp only)
      all_goals first | exact ⟨⟨fun _ => by omega, fun _ => rfl⟩, _, rfl⟩ | exact ⟨⟨fun z => (nomatch z), fun _ => by omega⟩, _, rfl⟩
    · have mk3 : Mark3 := ⟨⟩
      (try dsimp only)
      k_steps
      refine ⟨?_⟩
      rename Fr g L' _ _ => FE
      rename News g L' _ _ => NE
      refine refused_call B' FE X' T' NE Cg XB TB Dg rfl rfl (by k_room) (by dsimp only; omega) (by assumption) (by assumption) ⟨?_⟩ (fun h4 tk4 KS => ?_)
      · intro env₁ g₁ L₁ m₁ s₁ u₁ E Q e1 e2 B₁ F₁ N₁ X₁ T₁ hrc₁ hu₁ h10
        refine wpAny_call ?_
        refine' kla_code B₁ F₁ X₁ N₁ T₁ rfl e1 e2 List.mem_cons_self hrc₁ (by dsimp only; omega) rfl (locs rfl) ?_ rfl rfl rfl (by decide)
        intro g₂ L₂ h₂ FG₂ F₂ N₂ B₂ X₂ T₂
        (try dsimp only)
        k_steps
        refine ⟨?_⟩
        refine wpAny_call ?_
        dsimp only at hu₁
        refine part_raise B₂ F₂ X₂ T₂ N₂ (by k_mem) (by k_mem) hB (by omega) hbad rfl rfl (by dsimp only [depth_deeper]; omega) (by dsimp only [units_deeper]; omega) (fun h₃ tk₃ e₃ G₃ t₃ vs₃ FG₃ R₃ U₃ => ?_)
        refine leave_onX B₂ FG₃ rfl R₃ U₃ (fun h₄ R₄ U₄ => ?_)
        exact h10 h₄ _ e₃ g₂ t₃ vs₃ FG₂ R₄ U₄
      · (try dsimp only)
        (try k_unfold)
        rename TabInv base _ _ _ _ _ => TIE
        have KS' : KeepS (L' :: (env :: outer).filterMap (·.frame)) [] _ _ := KS
        exact k _ _ _ _ _ _ _ _ _ _ _ _ _ (right_finS hL' hg N Dg FE NE (by k_mem) KS') (keepS_at Dg NE KS' (by k_mem)) (keepS_at Dg NE KS' (by k_mem)) (keepS_at Dg NE KS' (by k_mem)) (keepS_at Dg NE KS' (by k_mem)) hI hB hr hn1 (by assumption) (by assumption) (by assumption) (tabInv_keepS Dg FE KS' TIE)
    · have mk2 : Mark2 := ⟨⟩
      (try dsimp only)
      k_steps
      refine ⟨?_⟩
      rename IsRange _ _ _ _ _ _ _ _ => rgX
      rename Fr g L' _ _ => FE
      rename News g L' _ _ => NE
      refine LCg.CompSrc.range (by rfl) FE NE rgX (small_one (by omega) (by omega) (by omega) (by omega)) (rangeSize_nat _ _) (by rw [sizeLine_eq]; omega) ?_
      intro g'
      refine comp_row hxn hxm g0 m0 gm (fun k' t' I' oI' C' oC' D' m' ys' h' tk' E' hlo' hhi' hC' hx' F' N' off' ne' hMark' => ?_) (fun ys hys => ?_)
      · clear FE NE
        (try simp only [LCg.Off3, and_true] at off')
        (try dsimp only)
        (try k_fold)
        k_steps
      · (try dsimp only)
        (try k_fold)
        k_steps
        rename Fr g L' _ _ => FG'
        rename News g L' _ (_ :: _) => NG'
        refine KBa.make_K FG' NG' rfl (News.isList NG' List.mem_cons_self) hys (in_take (in_drop hr)) (by rw [List.length_take, List.length_drop]; omega) ?_
        intro h₉ t₉ k₉ F₉ N₉ kIn
        (try dsimp only)
        k_steps
        (try dsimp only)
        (try k_unfold)
        rename KBw.bInts _ = List.take _ _ => hP'
        have eqb := eq_bytes_of hP' (KBa.ints_make (in_take (in_drop hr)))
        rw [eqb]
        exact k _ _ _ _ _ _ _ _ _ _ _ _ _ (right_fin hg N F₉ N₉ (by k_mem)) (N₉.get (by k_mem)) (N₉.get (by k_mem)) (N₉.get (by k_mem)) (N₉.get (by k_mem)) hI hB hr hn1 (by assumption) (by assumption) (by assumption) (TIg.keeps F₉.keep)
  · refine ⟨?_⟩
    rename (_ ∈ ((-1 :: 0 :: 0 :: _) : List Int)) => hxn
    refine cut2 (ns := ns) hxn ?_ (fun tk hbad => ?_) (fun tk g0 gm => ?_)
    · have mk1 : Mark1 := ⟨⟩
      k_steps
      all_goals (try dsimp only)
      all_goals first | exact ⟨⟨fun _ => by omega, fun _ => rfl⟩, _, rfl⟩ | exact ⟨⟨fun z => (nomatch z), fun _ => by omega⟩, _, rfl⟩
    · have mk3 : Mark3 := ⟨⟩
      (try dsimp only)
      k_steps
      refine ⟨?_⟩
      rename Fr g L' _ _ => FE
      rename News g L' _ _ => NE
      refine refused_call B' FE X' T' NE Cg XB TB Dg rfl rfl (by k_room) (by dsimp only; omega) (by assumption) (by assumption) ⟨?_⟩ (fun h4 tk4 KS => ?_)
      · intro env₁ g₁ L₁ m₁ s₁ u₁ E Q e1 e2 B₁ F₁ N₁ X₁ T₁ hrc₁ hu₁ h10
        refine wpAny_call ?_
        refine' kla_code B₁ F₁ X₁ N₁ T₁ rfl e1 e2 List.mem_cons_self hrc₁ (by dsimp only; omega) rfl (locs rfl) ?_ rfl rfl rfl (by decide)
        intro g₂ L₂ h₂ FG₂ F₂ N₂ B₂ X₂ T₂
        (try dsimp only)
        k_steps
        refine ⟨?_⟩
        refine wpAny_call ?_
        dsimp only at hu₁
        refine drop_raise B₂ F₂ X₂ T₂ N₂ (by k_mem) (by k_mem) hB (by omega) hbad rfl rfl (by dsimp only [depth_deeper]; omega) (by dsimp only [units_deeper]; omega) (fun h₃ tk₃ e₃ G₃ t₃ vs₃ FG₃ R₃ U₃ => ?_)
        refine leave_onX B₂ FG₃ rfl R₃ U₃ (fun h₄ R₄ U₄ => ?_)
        exact h10 h₄ _ e₃ g₂ t₃ vs₃ FG₂ R₄ U₄
      · (try dsimp only)
        (try k_unfold)
        rename TabInv base _ _ _ _ _ => TIE
        have KS' : KeepS (L' :: (env :: outer).filterMap (·.frame)) [] _ _ := KS
        exact k _ _ _ _ _ _ _ _ _ _ _ _ _ (right_finS hL' hg N Dg FE NE (by k_mem) KS') (keepS_at Dg NE KS' (by k_mem)) (keepS_at Dg NE KS' (by k_mem)) (keepS_at Dg NE KS' (by k_mem)) (keepS_at Dg NE KS' (by k_mem)) hI hB hr hn1 (by assumption) (by assumption) (by assumption) (tabInv_keepS Dg FE KS' TIE)
    · have mk2 : Mark2 := ⟨⟩
      (try dsimp only)
      k_steps
      refine ⟨?_⟩
      rename Fr g L' _ _ => FE
      (with_unfolding_all refine' For_invVF FE ?k1 ?k2 ?_)
      case k1 => exact rfl
      case k2 => exact rfl
      k_steps
      refine ⟨?_⟩
      rename IsRange _ _ _ _ _ _ _ _ => rgX
      rename Fr g L' _ _ => FE
      rename News g L' _ _ => NE
      refine iter_pops (rw := rw) (c := c) (by rfl) rgX g0 gm (by omega) FE NE (by k_updF) hI (fun k' t' us' c' ns' h' tk' own' hne' hle' hI' hoff' F' N' => ?_) (fun m' us' c' h' tk' hI' hm' F' N' => ?_)
      · clear FE NE
        (try simp only [List.nil_append, List.cons_append, List.append_nil] at N')
        (try dsimp only)
        (try k_fold)
        k_steps
        rename Fr g L' _ _ => F₉
        rename News g L' _ _ => N₉
        rename IntsAre _ (List.drop 1 _) => I₉
        refine' InvEndN.intro F₉ N₉ (PopJ.of (rw := rw) N₉ ?mem I₉ ?same) ?ha ?hn ?ho
        case mem => k_mem
        case same => (intro z hz; simp [hz])
        case ha => rfl
        case hn => (with_unfolding_all ((try simp only [List.nil_append, List.cons_append]); k_allIn))
        case ho => (intro p hp; k_ownIn)
      · (try dsimp only)
        (try k_fold)
        k_steps
        (try dsimp only)
        (try k_unfold)
        rename KBw.bInts _ = List.drop _ ns => BE
        exact k _ _ _ _ _ _ _ _ _ _ _ _ _ (right_fin hg N F' N' (by k_mem)) (N'.get (by k_mem)) (N'.get (by k_mem)) (N'.get (by k_mem)) (N'.get (by k_mem)) hI' BE (in_drop hr) (by rw [List.length_drop]; omega) (by assumption) (by assumption) (by assumption) (TIg.keeps F'.keep)
end Mine

namespace Mine
theorem top_off_SL : True := by
  w_top off
  trivial

structure TabCs (ql : Str) (p₁ p₂ : Pos) (ps : Array Value) (cs : List (Addr × Obj)) : Prop where
  ok : TriplesOk ps.toList
  all : ∀ q ∈ cs, ∃ vs t, q.2.data = .fields vs ∧ vs[1]? = some (.str ql t)
  one : codeAmong p₁ ps.toList = none ∨ ∃ c o, codeAmong p₁ ps.toList = some (.ref c) ∧ c ≠ 139 ∧ (c, o) ∈ cs
  two : codeAmong p₂ ps.toList = none ∨ ∃ c o, codeAmong p₂ ps.toList = some (.ref c) ∧ c ≠ 139 ∧ (c, o) ∈ cs
theorem tabCs_nil {ql : Str} {p₁ p₂ : Pos} : TabCs ql p₁ p₂ #[] [] := ⟨trivial, fun _ h => (nomatch h), .inl rfl, .inl rfl⟩
theorem TabCs.inv {ql : Str} {p₁ p₂ : Pos} {ps : Array Value} {cs led : List (Addr × Obj)} {h₀ h : Heap} {L : Addr} (x : TabCs ql p₁ p₂ ps cs) (N : News h₀ L h led) (sub : ∀ q ∈ cs, q ∈ led) : TabInv h₀ h ql p₁ p₂ ps := by
  have key : ∀ c o, (c, o) ∈ cs → h₀.get? c = none ∧ h.CodeRec (.ref c) ql := fun c o hm => by
    obtain ⟨vs, t, hd, hv⟩ := x.all _ hm
    exact ⟨(N _ (sub _ hm)).2.2, c, o, vs, t, rfl, (N _ (sub _ hm)).1, hd, hv⟩
  exact ⟨x.ok, x.one.imp_right fun ⟨c, o, a, b, hm⟩ => ⟨c, a, b, key c o hm⟩, x.two.imp_right fun ⟨c, o, a, b, hm⟩ => ⟨c, a, b, key c o hm⟩⟩
theorem tab_one {h₀ h : Heap} {L c : Addr} {m : Str → Option Value} {ql : Str} (F : Fr h₀ L h m) (hn : h₀.get? c = none) (r : h.CodeRec (.ref c) ql) : ∃ o, News h₀ L h [(c, o)] ∧ ∃ vs t, o.data = .fields vs ∧ vs[1]? = some (.str ql t) := by
  obtain ⟨c₂, o, vs, t, e, ho, hd, hv⟩ := r
  cases e
  refine ⟨o, fun p hp => ?_, vs, t, hd, hv⟩
  rw [List.mem_singleton.mp hp]
  refine ⟨ho, fun e => ?_, hn⟩
  obtain ⟨oL, es, ep, hoL, hdL, _⟩ := F.ns
  have e' : c = L := e
  rw [e', hoL] at ho
  cases ho
  rw [hdL] at hd; cases hd
theorem TabInv.cs {ql : Str} {p₁ p₂ : Pos} {ps : Array Value} {h₀ h : Heap} {L : Addr} {m : Str → Option Value} (x : TabInv h₀ h ql p₁ p₂ ps) (F : Fr h₀ L h m) : ∃ cs, TabCs ql p₁ p₂ ps cs ∧ News h₀ L h cs := by
  have half : ∀ p, (codeAmong p ps.toList = none ∨ ∃ c, codeAmong p ps.toList = some (.ref c) ∧ c ≠ 139 ∧ h₀.get? c = none ∧ h.CodeRec (.ref c) ql) →
      ∃ cs, News h₀ L h cs ∧ (∀ q ∈ cs, ∃ vs t, q.2.data = .fields vs ∧ vs[1]? = some (.str ql t)) ∧ (codeAmong p ps.toList = none ∨ ∃ c o, codeAmong p ps.toList = some (.ref c) ∧ c ≠ 139 ∧ (c, o) ∈ cs) := fun p hx => by
    rcases hx with hx | ⟨c, a, b, hn, r⟩
    · exact ⟨[], fun _ h => (nomatch h), fun _ h => (nomatch h), .inl hx⟩
    · obtain ⟨o, N, hv⟩ := tab_one F hn r
      exact ⟨[(c, o)], N, fun q hq => by rw [List.mem_singleton.mp hq]; exact hv, .inr ⟨c, o, a, b, .head _⟩⟩
  obtain ⟨c1, N1, a1, o1⟩ := half p₁ x.one
  obtain ⟨c2, N2, a2, o2⟩ := half p₂ x.two
  refine ⟨c1 ++ c2, ⟨x.ok, fun q hq => (List.mem_append.mp hq).elim (a1 q) (a2 q), o1.imp_right fun ⟨c, o, a, b, hm⟩ => ⟨c, o, a, b, List.mem_append_left _ hm⟩, o2.imp_right fun ⟨c, o, a, b, hm⟩ => ⟨c, o, a, b, List.mem_append_right _ hm⟩⟩,
    fun q hq => (List.mem_append.mp hq).elim (N1 q) (N2 q)⟩

def IterObj (o : Obj) : Prop := ∃ a b c, o = { cls := .type "range_iterator", dict := none, data := .fields #[rawInt a, rawInt b, rawInt c], slots := #[] }
theorem cs_off {ql : Str} {p₁ p₂ : Pos} {ps : Array Value} {cs : List (Addr × Obj)} {h₀ h : Heap} {L I : Addr} {oI : Obj} (x : TabCs ql p₁ p₂ ps cs) (N : News h₀ L h cs) (hI : h.get? I = some oI) (hi : IterObj oI) : ∀ q ∈ cs, @Ne Nat q.1 I := fun q hq e => by
  have z := (N q hq).1
  have e' : q.1 = I := e
  rw [e', hI] at z
  obtain ⟨vs, t, hd, hv⟩ := x.all q hq
  obtain ⟨a, b, c, ho⟩ := hi
  rw [← Option.some.inj z, ho] at hd
  cases hd
  cases hv

theorem right_callT {w : World} {A₀ : Around} {s : Shared} {h₀ : Heap} {env : Env} {L : Addr} {m mg mb : Str → Option Value} {mean : ExcName → Option Value} {loose : List Str} {d u : Nat} {gs : Option (List Code)}
  {src q qd rw I J : Addr} {oI oJ oT : Obj} {room cnt a b : Int} {h1 h2 : Int} {k1 k2 tr tb t3 t4 ta tb2 : Tok} {hb : Array UInt8} {c n : Nat} {vs : List Value} {ns : List Int} {ps : Array Value} {cs : List (Addr × Obj)} {Q E : Value → Shared → Prop}
  (B : Below A₀ h₀ [] h₀) (F : Fr h₀ L s.heap m) (X₀ : (hd.heap_39 w.params).In h₀) (T : Top topProg loose mean mg mb h₀)
  (N : News h₀ L s.heap ((I, oI) :: (q, instObj 98 qd) :: (qd, qDict h1 h2 k1 k2 room tr hb tb) :: (rw, listOf vs.toArray c) :: (src, listOf #[.int a ta, .int b tb2] n) :: (J, oJ) :: (139, tabObj ps) :: (144, oT) :: cs))
  (o1 : @LT.lt Nat _ 139 src) (o2 : @LT.lt Nat _ src rw) (o3 : @LT.lt Nat _ rw qd) (o4 : @LT.lt Nat _ qd q) (hne : ∀ x ∈ [src, rw, qd, 139], @Ne Nat x I ∧ @Ne Nat x J ∧ @Ne Nat x 144) (hiI : IterObj oI) (hiJ : IterObj oJ)
  (C : CodeHd h₀ 141 139) (TC : TabCs LQ LP1 LP2 ps cs)
  (hI : IntsAre vs ns) (hB : KBw.bInts hb = ns) (hr : KBa.In ns) (hn1 : (ns.length : Int) ≤ room) (hro : 1 ≤ room) (hro' : room ≤ 9) (hc0 : 0 ≤ cnt) (hc1 : cnt ≤ 1000)
  (ha : 0 ≤ a) (hb0 : 0 ≤ b) (hb1 : b < 2147483647)
  (hf : env.frame = some L) (hke : env.scope.kind = .function) (hdep : d + 150 < recursionLimit) (hun : u + 1500 < cLine)
  (k : ∀ h' tk vs' ns' hb' tb' a' b' ta' tb2' n' c' ps' cs', Fr h₀ L h' m →
    News h₀ L h' ((I, oI) :: (q, instObj 98 qd) :: (qd, qDict h1 h2 k1 k2 room tr hb' tb') :: (rw, listOf (List.toArray vs') c') :: (src, listOf #[.int a' ta', .int b' tb2'] n') :: (J, oJ) :: (139, tabObj ps') :: (144, oT) :: cs') →
    IntsAre vs' ns' → KBw.bInts hb' = ns' → KBa.In ns' → (ns'.length : Int) ≤ room → 0 ≤ a' → 0 ≤ b' → b' < 2147483647 → TabCs LQ LP1 LP2 ps' cs' → (∀ q ∈ cs', @Ne Nat q.1 I) → Q (.bool true) {s with heap := h', toks := tk}) :
  wpAny (model Challenge.rw_on0333_01.row.prog w) ⟨none, d, some (env :: []), gs, u⟩ (call (.ref 142) [.ref src, .ref q, .ref rw, .int room t3, .int cnt t4]) Q E s := by
  have N5 : News h₀ L s.heap [(q, instObj 98 qd), (qd, qDict h1 h2 k1 k2 room tr hb tb), (rw, listOf vs.toArray c), (src, listOf #[.int a ta, .int b tb2] n), (139, tabObj ps)] := fun p hp => N p (by
    simp only [List.mem_cons, List.not_mem_nil, or_false] at hp ⊢
    rcases hp with hp | hp | hp | hp | hp
    · exact .inr (.inl hp)
    · exact .inr (.inr (.inl hp))
    · exact .inr (.inr (.inr (.inl hp)))
    · exact .inr (.inr (.inr (.inr (.inl hp))))
    · exact .inr (.inr (.inr (.inr (.inr (.inr (.inl hp)))))))
  refine wpAny_call (right_spec B F X₀ T N5 o1 o2 o3 o4 C X₀ T (fun _ h => nomatch h) (TC.inv N fun q hq => by simp only [List.mem_cons]; exact .inr (.inr (.inr (.inr (.inr (.inr (.inr (.inr hq)))))))) hI hB hr hn1 hro hro' hc0 hc1 ha hb0 hb1 hf hke hdep hun
    fun h' tk vs' ns' hb' tb' a' b' ta' tb2' n' c' ps' KS e1 e2 e3 e4 i1 i2 i3 i4 i5 i6 i7 TI' => ?_)
  have hfs : (env :: []).filterMap (·.frame) = [L] := by simp [hf]
  rw [hfs] at KS
  have out : ∀ x ∈ [src, rw, qd, 139], @Ne Nat x L ∧ h₀.get? x = none := by
    intro x hx
    simp only [List.mem_cons, List.not_mem_nil, or_false] at hx
    rcases hx with rfl | rfl | rfl | rfl
    · exact ⟨(N5 (_, _) (.tail _ (.tail _ (.tail _ (.head _))))).2.1, (N5 (_, _) (.tail _ (.tail _ (.tail _ (.head _))))).2.2⟩
    · exact ⟨(N5 (_, _) (.tail _ (.tail _ (.head _)))).2.1, (N5 (_, _) (.tail _ (.tail _ (.head _)))).2.2⟩
    · exact ⟨(N5 (_, _) (.tail _ (.head _))).2.1, (N5 (_, _) (.tail _ (.head _))).2.2⟩
    · exact ⟨(N5 (_, _) (.tail _ (.tail _ (.tail _ (.tail _ (.head _)))))).2.1, (N5 (_, _) (.tail _ (.tail _ (.tail _ (.tail _ (.head _)))))).2.2⟩
  have F' : Fr h₀ L h' m := by
    obtain ⟨oL, es, ep, hoL, hdL, r⟩ := F.ns
    obtain ⟨sl, hsl⟩ := KS.slot L oL hoL (fun hm => (out L hm).1 rfl) (.head _)
    refine ⟨⟨_, es, ep, hsl, hdL, r⟩, fun b o e => KS.same b o (F.keep b o e) (fun hm => ?_) (fun hm => ?_), F.above⟩
    · rw [(out b hm).2] at e; cases e
    · rw [List.mem_singleton.mp hm, kts_self F] at e; cases e
  have keepN : ∀ p, News h₀ L s.heap [p] → p.1 ∉ [src, rw, qd, 139] → News h₀ L h' [p] := fun p Np hnm => by
    intro p' hp'
    rw [List.mem_singleton.mp hp']
    have z := Np p (.head _)
    exact ⟨KS.same _ _ z.1 hnm (fun hm => z.2.1 (List.mem_singleton.mp hm)), z.2⟩
  have atN : ∀ x o, x ∈ [src, rw, qd, 139] → h'.get? x = some o → News h₀ L h' [(x, o)] := fun x o hx e p hp => by
    rw [List.mem_singleton.mp hp]
    exact ⟨e, (out x hx).1, (out x hx).2⟩
  have cat : ∀ (p : Addr × Obj) l, News h₀ L h' [p] → News h₀ L h' l → News h₀ L h' (p :: l) := fun p l a b q hq => by
    rcases List.mem_cons.mp hq with rfl | hq
    · exact a _ (.head _)
    · exact b q hq
  have one : ∀ p, p ∈ ((I, oI) :: (q, instObj 98 qd) :: (qd, qDict h1 h2 k1 k2 room tr hb tb) :: (rw, listOf vs.toArray c) :: (src, listOf #[.int a ta, .int b tb2] n) :: (J, oJ) :: (139, tabObj ps) :: (144, oT) :: cs) → News h₀ L s.heap [p] := fun p hp q hq => by
    rw [List.mem_singleton.mp hq]; exact N p hp
  obtain ⟨cs', TC', NC'⟩ := TI'.cs F'
  have nq : q ∉ [src, rw, qd, 139] := by
    simp only [List.mem_cons, List.not_mem_nil, or_false]
    have e1 : @Ne Nat q src := by omega
    have e2 : @Ne Nat q rw := by omega
    have e3 : @Ne Nat q qd := by omega
    have e4 : @Ne Nat q 139 := by omega
    rintro (z | z | z | z)
    · exact e1 z
    · exact e2 z
    · exact e3 z
    · exact e4 z
  have nI := cat (I, oI) _ (keepN _ (one _ (by simp)) (fun hm => (hne _ hm).1 rfl)) NC'
  refine k h' tk vs' ns' hb' tb' a' b' ta' tb2' n' c' ps' cs' F' ?_ i1 i2 i3 i4 i5 i6 i7 TC' (cs_off TC' NC' (nI _ (.head _)).1 hiI)
  refine cat _ _ (keepN _ (one _ (by simp)) (fun hm => (hne _ hm).1 rfl)) (cat _ _ (keepN _ (one _ (by simp)) nq) (cat _ _ (atN _ _ (by simp) e1) (cat _ _ (atN _ _ (by simp) e2) (cat _ _ (atN _ _ (by simp) e3) (cat _ _ (keepN _ (one _ (by simp)) (fun hm => (hne _ hm).2.1 rfl)) (cat _ _ (atN _ _ (by simp) e4) (cat _ _ (keepN _ (one _ (by simp)) (fun hm => (hne _ hm).2.2 rfl)) NC')))))))

section
variable {prog : Program} {w : World} {A : Around} {E : Value → Shared → Prop} {s : Shared} {env : Env} {h₀ : Heap} {x : Str} {body : List Stmt} {Q : Flow → Shared → Prop}
def LedEnd {σ : Type} (h₀ : Heap) (L : Addr) (led : σ → List (Addr × Obj)) (ok : σ → Prop) (Y : List Str) (x : Str) (m₀ : Str → Option Value) (I : Addr) (oI : Obj) (s₁ s₂ : Shared) : Prop :=
  ∃ h' tk c m', s₂ = { s₁ with heap := h', toks := tk } ∧ Fr h₀ L h' m' ∧ News h₀ L h' ((I, oI) :: led c) ∧ (∀ q ∈ led c, @Ne Nat q.1 I) ∧ ok c ∧ ∀ z, z ≠ x → Y.contains z = false → m' z = m₀ z
def LedPost {σ : Type} (h₀ : Heap) (L : Addr) (led : σ → List (Addr × Obj)) (ok : σ → Prop) (Y : List Str) (x : Str) (m₀ : Str → Option Value) (I : Addr) (oI : Obj) (s₁ : Shared) (Q : Flow → Shared → Prop) (f : Flow) (s₂ : Shared) : Prop :=
  match f with
  | .ret v => Q (.ret v) s₂
  | .brk => Q .next s₂
  | _ => LedEnd h₀ L led ok Y x m₀ I oI s₁ s₂
theorem iter_led {σ : Type} (led : σ → List (Addr × Obj)) (ok : σ → Prop) (Y : List Str) {r : Addr} {b₀ : Int} {t₀ u₀ v₀ : Tok} {m₀ : Str → Option Value} {c₀ : σ}
    (hh : A.handled = none) (hr : IsRange s.heap r 0 b₀ 1 t₀ u₀ v₀) (g0 : 0 ≤ b₀) (g1 : b₀ ≤ 100) (F : Fr h₀ env.locals s.heap m₀) (N : News h₀ env.locals s.heap (led c₀)) (h0 : ok c₀)
    (turn : ∀ k t c (u : Str → Option Value) I oI h tk, 0 ≤ k → k < b₀ → ok c → IterObj oI → (∀ q ∈ led c, @Ne Nat q.1 I) → Fr h₀ env.locals h (fun y => if y = x then some (.int k t) else if Y.contains y then u y else m₀ y) → News h₀ env.locals h ((I, oI) :: led c) →
      wpAny (model prog w) A (execs body env) (LedPost h₀ env.locals led ok Y x m₀ I oI { s with heap := h, toks := tk } Q) E { s with heap := h, toks := tk })
    (done : ∀ c (u : Str → Option Value) h tk, ok c → Fr h₀ env.locals h (fun y => if y = x then u y else if Y.contains y then u y else m₀ y) → News h₀ env.locals h (led c) → Q .next { s with heap := h, toks := tk }) :
    wpAny (model prog w) A (pyIter (.ref r)) (fun it s₂ => LoopAtV prog w A h₀ env x body Q E it s₂) E s := by
  have hn : Builtin.Range.rangeSize 0 b₀ 1 = ((b₀.toNat : Nat) : Int) := by rw [rangeSize_nat]; simp
  refine wpAny_pyIter_range hr (small_one (by omega) (by omega) (by omega) (by omega)) ?_
  have hwr : ∀ b ∈ [s.heap.objs.size], h₀.get? b = none := fun b hb => by rw [List.mem_singleton.mp hb]; exact next_is_new F
  have hIL : env.locals ∉ [s.heap.objs.size] := fun hm => absurd F.ns.lt (by rw [List.mem_singleton.mp hm]; exact Nat.lt_irrefl _)
  refine ⟨s.heap.objs.size, [s.heap.objs.size], [s.heap.objs.size], b₀.toNat, _, _, m₀, led c₀, fun i m nx => ∃ c, nx = led c ∧ ok c ∧ ∀ z, z ≠ x → Y.contains z = false → m z = m₀ z, rfl, LCg.range_walks hh (I := s.heap.objs.size) 0 b₀.toNat, hIL, hwr,
    fun p hp hm => absurd (Heap.lt_size (N p hp).1) (by rw [List.mem_singleton.mp hm]; exact Nat.lt_irrefl _), (by show IsRangeIter _ _ _ _ _; rw [hn]; simpa using Heap.get?_push_size _ rfl), F.push _, (fun p hp => ⟨Heap.get?_push_of_some _ (N p hp).1, (N p hp).2⟩), ⟨c₀, rfl, h0, fun _ _ _ => rfl⟩, ?_, ?_⟩
  · rintro i v m₁ nx s₁ own ⟨h, tk, rfl⟩ hi ⟨t, rfl⟩ ⟨c, rfl, hok, hm⟩ hnw o1 o2 o3 hst F₁ N₁
    obtain ⟨oI, hoI, hst'⟩ : ∃ oI, IterObj oI ∧ h.get? s.heap.objs.size = some oI := ⟨_, ⟨_, _, _, rfl⟩, hst⟩
    have ownE : ∀ p ∈ own, p = (s.heap.objs.size, oI) := fun p hp => by
      have e1 := List.mem_singleton.mp (o1 p hp)
      have e2 := o2 p hp
      rw [e1] at e2
      exact Prod.ext e1 (Option.some.inj (e2.symm.trans hst'))
    have e : (fun y => if y = x then some (Value.int (0 + (i : Int)) t) else m₁ y) = fun y => if y = x then some (Value.int (0 + (i : Int)) t) else if Y.contains y then m₁ y else m₀ y := by
      funext y
      by_cases hy : y = x
      · rw [if_pos hy, if_pos hy]
      · rw [if_neg hy, if_neg hy]
        cases hY : Y.contains y with
        | true => rw [if_pos rfl]
        | false => rw [if_neg (by decide)]; exact hm y hy hY
    rw [e] at F₁
    have hne : ∀ q ∈ led c, @Ne Nat q.1 s.heap.objs.size := fun q hq z => hnw q hq (List.mem_singleton.mpr z)
    refine wpAny_mono (turn (0 + (i : Int)) t c m₁ s.heap.objs.size oI h tk (by omega) (by omega) hok hoI hne F₁ (fun p hp => ?_)) (fun f s₂ p => ?_) fun _ _ e => e
    · rcases List.mem_cons.mp hp with rfl | hp
      · exact ⟨hst', fun z => hIL (List.mem_singleton.mpr z.symm), hwr _ (List.mem_singleton.mpr rfl)⟩
      · exact N₁ p (List.mem_append_right _ hp)
    · have fin : LedEnd h₀ env.locals led ok Y x m₀ s.heap.objs.size oI { s with heap := h, toks := tk } s₂ → LoopStepU h₀ env.locals [s.heap.objs.size] own (fun m nx => ∃ c, nx = led c ∧ ok c ∧ ∀ z, z ≠ x → Y.contains z = false → m z = m₀ z) { s with heap := h, toks := tk } .next s₂ := by
        rintro ⟨h', tk', c', m', rfl, F', N', hne', hok', hm'⟩
        refine ⟨rfl, h', tk', m', led c', rfl, F', fun p hp => ?_, fun p hp hq => hne' p hp (List.mem_singleton.mp hq), c', rfl, hok', hm'⟩
        rcases List.mem_append.mp hp with hp | hp
        · rw [ownE p hp]; exact N' _ (.head _)
        · exact N' p (.tail _ hp)
      cases f with
      | ret v => exact .ret p
      | brk => exact .brk p
      | next => exact .next (fin p)
      | cont => exact .cont (fin p)
  · rintro h' tk m' nx F' N' _ ⟨c, rfl, hok, hm⟩
    refine done c m' h' tk hok ?_ N'
    have e : (fun y => if y = x then m' y else if Y.contains y then m' y else m₀ y) = m' := by
      funext y
      by_cases hy : y = x
      · rw [if_pos hy]
      · rw [if_neg hy]
        cases hY : Y.contains y with
        | true => rw [if_pos rfl]
        | false => rw [if_neg (by decide)]; exact (hm y hy hY).symm
    rw [e]; exact F'
end
theorem refused_callL {w : World} {A₀ : Around} {s : Shared} {h₀ : Heap} {env : Env} {L : Addr} {m mg mb : Str → Option Value} {mean : ExcName → Option Value} {loose : List Str} {d u : Nat} {gs : Option (List Code)}
  {fn : Addr} {nm ql : Str} {pr : Arguments} {bd : Expr} {sc : Scope} {cl : List (Str × Addr)} {pmv ctv : Value} {c' cc cP : Addr} {rest : List (Addr × Obj)} {Q : Value → Shared → Prop} {E : Value → Shared → Prop}
  (B : Below A₀ h₀ [] h₀) (F : Fr h₀ L s.heap m) (X₀ : (hd.heap_39 w.params).In h₀) (T : Top topProg loose mean mg mb h₀)
  (N : News h₀ L s.heap ((fn, kla_obj nm ql pr bd sc cl pmv c' ctv) :: rest)) (C : CodeHd h₀ cc cP)
  (hf : env.frame = some L) (hke : env.scope.kind = .function) (hdep : d + 50 < recursionLimit) (hun : u + 500 < cLine)
  (hcd : s.heap.CodeRec (.ref c') ql) (hnc : c' ∉ ((fn, kla_obj nm ql pr bd sc cl pmv c' ctv) :: rest).map (·.1))
  (hcall : Stuck (∀ (env₁ : Env) (g₁ : Heap) (L₁ : Addr) (m₁ : Str → Option Value) (s₁ : Shared) (u₁ : Nat) (E : Value → Shared → Prop) (Q : Value → Shared → Prop),
    env₁.frame = some L₁ → env₁.scope.kind = .function → Below ⟨none, d, some (env :: []), gs, u⟩ h₀ (env :: []) g₁ → Fr g₁ L₁ s₁.heap m₁ → News g₁ L₁ s₁.heap ((fn, kla_obj nm ql pr bd sc cl pmv c' ctv) :: rest) → (hd.heap_39 w.params).In g₁ → Top topProg loose mean mg mb g₁ →
    s₁.heap.CodeRec (.ref c') ql → u₁ ≤ u + 20 →
    (∀ h' tk e G t vs, Fr g₁ L₁ G m₁ → RaisedS h₀ G (env₁ :: env :: []) e (.ref 44) t vs ((fn, kla_obj nm ql pr bd sc cl pmv c' ctv) :: rest) h' → G.UpToSlots h' → E (.ref e) { s₁ with heap := h', toks := tk }) →
    wpAny (model Challenge.rw_on0333_01.row.prog w) ⟨none, d + 1, some (env₁ :: env :: []), gs, u₁⟩ (call (.ref fn) []) Q E s₁))
  (k : ∀ h' tk, Fr h₀ L h' m → (∀ led, News h₀ L s.heap led → News h₀ L h' led) → Q (.bool true) {s with heap := h', toks := tk}) :
  wpAny (model Challenge.rw_on0333_01.row.prog w) ⟨none, d, some (env :: []), gs, u⟩ (call (.ref 130) [.ref fn]) Q E s := by
  refine refused_call B F X₀ T N C X₀ T (fun _ h => nomatch h) hf hke hdep hun hcd hnc hcall fun h' tk KS => ?_
  have hfs : (env :: []).filterMap (·.frame) = [L] := by simp [hf]
  rw [hfs] at KS
  obtain ⟨oL, es, ep, hoL, hdL, r⟩ := F.ns
  obtain ⟨sl, hsl⟩ := KS.slot L oL hoL List.not_mem_nil (.head _)
  refine k h' tk ⟨⟨_, es, ep, hsl, hdL, r⟩, fun b o e => KS.same b o (F.keep b o e) List.not_mem_nil (fun hm => ?_), F.above⟩ (fun led N' p hp => ⟨KS.same _ _ (N' p hp).1 List.not_mem_nil (fun hm => (N' p hp).2.1 (List.mem_singleton.mp hm)), (N' p hp).2⟩)
  rw [List.mem_singleton.mp hm, kts_self F] at e; cases e

theorem put_callN {w : World} {A₀ : Around} {s : Shared} {base h₀ : Heap} {outer : List Env} {env : Env} {L : Addr} {m mg mb : Str → Option Value} {mean : ExcName → Option Value} {loose : List Str} {d u : Nat} {gs : Option (List Code)}
  {q qd : Addr} {room z : Int} {h1 h2 : Int} {k1 k2 tr tb t3 : Tok} {hb ob : Array UInt8} {ns fs rs : List Int} {news : List (Addr × Obj)} {Q : Value → Shared → Prop} {E : Value → Shared → Prop} {g : Obj → List (Addr × Obj)}
  (B : Below A₀ base outer h₀) (F : Fr h₀ L s.heap m) (X₀ : (hd.heap_39 w.params).In h₀) (T : Top topProg loose mean mg mb h₀)
  (N : News h₀ L s.heap news) (hq : (q, instObj 98 qd) ∈ news) (U : UpdF qd (qDict h1 h2 k1 k2 room tr hb tb) news g) (hd1 : @Ne Nat q qd)
  (hB : KBw.bInts hb = ns) (hO : KBw.bInts ob = fs) (hn1 : ns.length ≤ 100) (hf1 : fs.length ≤ 100) (hro : (ns.length : Int) ≤ room) (hro' : room ≤ 100)
  (er : fs.take (room - (ns.length : Int)).toNat = rs) (ez : (rs.length : Int) = z)
  (hf : env.frame = some L) (hke : env.scope.kind = .function) (hdep : d + 50 < recursionLimit) (hun : u + 500 < cLine)
  (k : ∀ h' tk t hb' tb', Fr h₀ L h' m → News h₀ L h' (g (qDict h1 h2 k1 k2 room tr hb' tb')) → KBw.bInts hb' = ns ++ rs → Q (.int z t) {s with heap := h', toks := tk}) :
  wpAny (model Challenge.rw_on0333_01.row.prog w) ⟨none, d, some (env :: outer), gs, u⟩ (call (.ref 81) [.ref q, .bytes ob t3]) Q E s := by
  subst er
  subst ez
  exact put_call B F X₀ T N hq U hd1 hB hO hn1 hf1 hro hro' hf hke hdep hun k
end Mine

namespace Mine
theorem top_off_SI : True := by
  w_top off
  trivial

structure QS where
  vs : List Value
  ns : List Int
  hb : Array UInt8
  tb : Tok
  c : Nat
  a : Int
  b : Int
  ta : Tok
  tb2 : Tok
  n : Nat
  ps : Array Value
  cs : List (Addr × Obj)
structure QOk (room : Int) (x : QS) : Prop where
  hI : IntsAre x.vs x.ns
  hB : KBw.bInts x.hb = x.ns
  hr : KBa.In x.ns
  hn : (x.ns.length : Int) ≤ room
  ha : 0 ≤ x.a
  hb0 : 0 ≤ x.b
  hb1 : x.b < 2147483647
  tc : TabCs LQ LP1 LP2 x.ps x.cs
def ledQ (q qd rw src I : Addr) (oI : Obj) (h1 h2 : Int) (k1 k2 tr : Tok) (room : Int) (x : QS) : List (Addr × Obj) :=
  (q, instObj 98 qd) :: (qd, qDict h1 h2 k1 k2 room tr x.hb x.tb) :: (rw, listOf x.vs.toArray x.c) :: (src, listOf #[.int x.a x.ta, .int x.b x.tb2] x.n) :: (I, oI) :: (139, tabObj x.ps) :: (144, tabObj #[]) :: x.cs
theorem ledQ_off {q qd rw src I I2 : Addr} {oI : Obj} {h1 h2 : Int} {k1 k2 tr : Tok} {room : Int} {x y : QS} (h : ∀ p ∈ ledQ q qd rw src I oI h1 h2 k1 k2 tr room x, @Ne Nat p.1 I2) (hc : ∀ p ∈ y.cs, @Ne Nat p.1 I2) :
    ∀ p ∈ ledQ q qd rw src I oI h1 h2 k1 k2 tr room y, @Ne Nat p.1 I2 := by
  intro p hp
  unfold ledQ at h hp
  simp only [List.mem_cons] at hp
  rcases hp with rfl | rfl | rfl | rfl | rfl | rfl | rfl | hp
  · exact h (q, instObj 98 qd) (.head _)
  · exact h (qd, qDict h1 h2 k1 k2 room tr x.hb x.tb) (.tail _ (.head _))
  · exact h (rw, listOf x.vs.toArray x.c) (.tail _ (.tail _ (.head _)))
  · exact h (src, listOf #[.int x.a x.ta, .int x.b x.tb2] x.n) (.tail _ (.tail _ (.tail _ (.head _))))
  · exact h (I, oI) (.tail _ (.tail _ (.tail _ (.tail _ (.head _)))))
  · exact h (139, tabObj x.ps) (.tail _ (.tail _ (.tail _ (.tail _ (.tail _ (.head _))))))
  · exact h (144, tabObj #[]) (.tail _ (.tail _ (.tail _ (.tail _ (.tail _ (.tail _ (.head _)))))))
  · exact hc p hp
theorem ledQ_ne {q qd rw src I I2 : Addr} {oI : Obj} {h1 h2 : Int} {k1 k2 tr : Tok} {room : Int} {x : QS} (h : ∀ p ∈ ledQ q qd rw src I oI h1 h2 k1 k2 tr room x, @Ne Nat p.1 I2) : ∀ y ∈ [src, rw, qd, 139], @Ne Nat y I2 := by
  intro y hy
  unfold ledQ at h
  simp only [List.mem_cons, List.not_mem_nil, or_false] at hy
  rcases hy with rfl | rfl | rfl | rfl
  · exact h (y, listOf #[.int x.a x.ta, .int x.b x.tb2] x.n) (.tail _ (.tail _ (.tail _ (.head _))))
  · exact h (y, listOf x.vs.toArray x.c) (.tail _ (.tail _ (.head _)))
  · exact h (y, qDict h1 h2 k1 k2 room tr x.hb x.tb) (.tail _ (.head _))
  · exact h (139, tabObj x.ps) (.tail _ (.tail _ (.tail _ (.tail _ (.tail _ (.head _))))))
theorem outer_names {z : Str} (hY : [("source" : Str), ("room" : Str), ("row" : Str), ("queue" : Str), ("turn" : Str)].contains z = false) : z ≠ ("source" : Str) ∧ z ≠ ("room" : Str) ∧ z ≠ ("row" : Str) ∧ z ≠ ("queue" : Str) ∧ z ≠ ("turn" : Str) := by
  refine ⟨?_, ?_, ?_, ?_, ?_⟩ <;> (rintro rfl; exact absurd hY (by decide))
theorem outer_off {h₀ h : Heap} {L I : Addr} {oI : Obj} {ps ps' : Array Value} {cs cs' : List (Addr × Obj)} (N : News h₀ L h ((I, oI) :: (139, tabObj ps') :: (144, tabObj #[]) :: cs')) (hi : IterObj oI) (tc : TabCs LQ LP1 LP2 ps' cs')
    (h : ∀ p ∈ (139, tabObj ps) :: (144, tabObj #[]) :: cs, @Ne Nat p.1 I) : ∀ p ∈ (139, tabObj ps') :: (144, tabObj #[]) :: cs', @Ne Nat p.1 I := by
  intro p hp
  rcases List.mem_cons.mp hp with rfl | hp
  · exact h (139, tabObj ps) (.head _)
  rcases List.mem_cons.mp hp with rfl | hp
  · exact h (144, tabObj #[]) (.tail _ (.head _))
  · exact cs_off tc (fun q hq => N q (.tail _ (.tail _ (.tail _ hq)))) (N _ (.head _)).1 hi p hp
structure QOrd (q qd rw src I : Addr) : Prop where
  o1 : @LT.lt Nat _ 139 src
  o2 : @LT.lt Nat _ src rw
  o3 : @LT.lt Nat _ rw qd
  o4 : @LT.lt Nat _ qd q
  off : ∀ x ∈ [src, rw, qd, 139], @Ne Nat x I ∧ @Ne Nat x 144
section
variable {prog : Program} {w : World} {A : Around} {E : Value → Shared → Prop} {s : Shared} {env : Env} {h₀ : Heap} {x : Str} {body : List Stmt} {Q : Flow → Shared → Prop}
theorem iter_inner {r q qd rw src I D : Addr} {oI oD oS : Obj} {room a b : Int} {h1 h2 : Int} {k1 k2 tr tb ta tb2 : Tok} {n : Nat} {ps : Array Value} {cs : List (Addr × Obj)} {b₀ : Int} {t₀ u₀ v₀ : Tok} {m₀ : Str → Option Value} {Z : Prop}
    (N : News h₀ env.locals s.heap ((q, instObj 98 qd) :: (qd, qDict h1 h2 k1 k2 room tr #[] tb) :: (D, oD) :: (rw, listOf #[] 0) :: (src, listOf #[.int a ta, .int b tb2] n) :: (I, oI) :: (139, tabObj ps) :: (144, tabObj #[]) :: cs))
    (hh : A.handled = none) (hr : IsRange s.heap r 0 b₀ 1 t₀ u₀ v₀) (g0 : 0 ≤ b₀) (g1 : b₀ ≤ 100) (F : Fr h₀ env.locals s.heap m₀)
    (o4 : @LT.lt Nat _ qd q) (lqd : ∀ p ∈ (D, oD) :: (rw, listOf #[] 0) :: (src, oS) :: (I, oI) :: (139, tabObj ps) :: (144, tabObj #[]) :: cs, @LT.lt Nat _ p.1 qd)
    (lrw : src < rw ∧ I < rw ∧ 139 < rw ∧ 144 < rw ∧ Z) (nsrc : ∀ p ∈ (I, oI) :: (139, tabObj ps) :: (144, tabObj #[]) :: cs, @Ne Nat p.1 src) (hnI : ∀ p ∈ (139, tabObj ps) :: (144, tabObj #[]) :: cs, @Ne Nat p.1 I) (o1 : @LT.lt Nat _ 139 src)
    (a0 : 0 ≤ a) (b0 : 0 ≤ b) (b1 : b < 2147483647) (hok : TabCs LQ LP1 LP2 ps cs) (hro : 1 ≤ room)
    (turn : ∀ k t (c : QS) (u : Str → Option Value) I2 oI2 h tk, 0 ≤ k → k < b₀ → QOk room c → IterObj oI2 → QOrd q qd rw src I → (∀ p ∈ ledQ q qd rw src I oI h1 h2 k1 k2 tr room c, @Ne Nat p.1 I2) → Fr h₀ env.locals h (fun y => if y = x then some (.int k t) else if ([] : List Str).contains y then u y else m₀ y) →
      News h₀ env.locals h ((I2, oI2) :: (q, instObj 98 qd) :: (qd, qDict h1 h2 k1 k2 room tr c.hb c.tb) :: (rw, listOf c.vs.toArray c.c) :: (src, listOf #[.int c.a c.ta, .int c.b c.tb2] c.n) :: (I, oI) :: (139, tabObj c.ps) :: (144, tabObj #[]) :: c.cs) →
      wpAny (model prog w) A (execs body env) (LedPost h₀ env.locals (ledQ q qd rw src I oI h1 h2 k1 k2 tr room) (QOk room) [] x m₀ I2 oI2 { s with heap := h, toks := tk } Q) E { s with heap := h, toks := tk })
    (done : ∀ (ps' : Array Value) (cs' : List (Addr × Obj)) (u : Str → Option Value) h tk, TabCs LQ LP1 LP2 ps' cs' → (∀ p ∈ cs', p ∈ cs ∨ True) → Fr h₀ env.locals h (fun y => if y = x then u y else if ([] : List Str).contains y then u y else m₀ y) → News h₀ env.locals h ((I, oI) :: (139, tabObj ps') :: (144, tabObj #[]) :: cs') → Q .next { s with heap := h, toks := tk }) :
    wpAny (model prog w) A (pyIter (.ref r)) (fun it s₂ => LoopAtV prog w A h₀ env x body Q E it s₂) E s := by
  have e2 : @LT.lt Nat _ src rw := lrw.1
  have e3 : @LT.lt Nat _ rw qd := lqd (rw, listOf #[] 0) (.tail _ (.head _))
  have eI : @Ne Nat src I := fun z => nsrc _ (.head _) z.symm
  have eJ : @Ne Nat src 144 := fun z => nsrc (144, tabObj #[]) (.tail _ (.tail _ (.head _))) z.symm
  have rI : @Ne Nat rw I := fun z => Nat.lt_irrefl _ (by have := lrw.2.1; have z' : rw = I := z; rw [← z'] at this; exact this)
  have rJ : @Ne Nat rw 144 := fun z => Nat.lt_irrefl _ (by have := lrw.2.2.2.1; have z' : rw = (144 : Nat) := z; rw [z'] at this; exact this)
  have dI : @Ne Nat qd I := fun z => Nat.lt_irrefl _ (by have := lqd (I, oI) (.tail _ (.tail _ (.tail _ (.head _)))); have z' : qd = I := z; rw [z'] at this; exact this)
  have dJ : @Ne Nat qd 144 := fun z => Nat.lt_irrefl _ (by have := lqd (144, tabObj #[]) (.tail _ (.tail _ (.tail _ (.tail _ (.tail _ (.head _)))))); have z' : qd = (144 : Nat) := z; rw [z'] at this; exact this)
  have ord : QOrd q qd rw src I := ⟨o1, e2, e3, o4, fun y hy => by
    simp only [List.mem_cons, List.not_mem_nil, or_false] at hy
    rcases hy with rfl | rfl | rfl | rfl
    · exact ⟨eI, eJ⟩
    · exact ⟨rI, rJ⟩
    · exact ⟨dI, dJ⟩
    · exact ⟨hnI _ (.head _), by decide⟩⟩
  refine iter_led (ledQ q qd rw src I oI h1 h2 k1 k2 tr room) (QOk room) [] (c₀ := ⟨[], [], #[], tb, 0, a, b, ta, tb2, n, ps, cs⟩) hh hr g0 g1 F (fun p hp => N p ?_) ⟨.nil, rfl, fun _ h => (nomatch h), (by show (0 : Int) ≤ room; omega), a0, b0, b1, hok⟩
    (fun k t c u I2 oI2 h tk h0 h1 hq hi hne F' N' => turn k t c u I2 oI2 h tk h0 h1 hq hi ord hne F' N') (fun c u h tk hq F' N' => done c.ps c.cs u h tk hq.tc (fun _ _ => .inr trivial) F' (fun p hp => N' p ?_))
  · unfold ledQ at hp
    simp only [List.mem_cons] at hp ⊢
    rcases hp with hp | hp | hp | hp | hp | hp | hp | hp
    · exact .inl hp
    · exact .inr (.inl hp)
    · exact .inr (.inr (.inr (.inl hp)))
    · exact .inr (.inr (.inr (.inr (.inl hp))))
    · exact .inr (.inr (.inr (.inr (.inr (.inl hp)))))
    · exact .inr (.inr (.inr (.inr (.inr (.inr (.inl hp))))))
    · exact .inr (.inr (.inr (.inr (.inr (.inr (.inr (.inl hp)))))))
    · exact .inr (.inr (.inr (.inr (.inr (.inr (.inr (.inr hp)))))))
  · unfold ledQ
    exact .tail _ (.tail _ (.tail _ (.tail _ hp)))
end
end Mine

namespace Mine
theorem top_off_SN : True := by
  w_top off
  trivial
local macro_rules | `(tactic| k_room) => `(tactic| ((try simp only [depth_mark, depth_under_make, depth_under_kw, depth_in1, depth_deeper, depth_caller]); (try dsimp only); omega))
local macro_rules | `(tactic| k_units) => `(tactic| ((try simp only [units_in1, units_deeper, Around.mark_units]); (try dsimp only); omega))

theorem new_call {w : World} {A₀ : Around} {s : Shared} {base h₀ : Heap} {outer : List Env} {env : Env} {L : Addr} {m mg mb : Str → Option Value} {mean : ExcName → Option Value} {loose : List Str} {d u : Nat} {gs : Option (List Code)}
  {news : List (Addr × Obj)} {room : Int} {t3 : Tok} {Q : Value → Shared → Prop} {E : Value → Shared → Prop}
  (B : Below A₀ base outer h₀) (F : Fr h₀ L s.heap m) (X₀ : (hd.heap_39 w.params).In h₀) (T : Top topProg loose mean mg mb h₀)
  (N : News h₀ L s.heap news) (hro : 1 ≤ room) (hro' : room ≤ 100)
  (hf : env.frame = some L) (hke : env.scope.kind = .function) (hdep : d + 50 < recursionLimit) (hun : u + 500 < cLine)
  (k : ∀ h' tk (q qd : Addr) h1 h2 k1 k2 tr tb, Fr h₀ L h' m → News h₀ L h' ((q, instObj 98 qd) :: (qd, qDict h1 h2 k1 k2 room tr #[] tb) :: news) → (∀ p ∈ news, @LT.lt Nat _ p.1 qd) → (@LT.lt Nat _ qd q) → Q (.ref q) {s with heap := h', toks := tk}) :
  wpAny (model Challenge.rw_on0333_01.row.prog w) ⟨none, d, some (env :: outer), gs, u⟩ (call (.ref 98) [.int room t3]) Q E s := by
  revert X₀; k_fill; intro X₀
  refine' call_cls F X₀ N ?k4 ?k5 ?k6 ?_
  case k4 => k_is
  case k5 => k_is
  case k6 => k_is
  intro x dx h1 F1 NA l1 l2
  have N1 : News h₀ L h1 [(x, instObj 98 dx), (dx, dictOf [] 0)] := fun p hp => NA p (by
    rcases List.mem_cons.mp hp with rfl | hp
    · exact .head _
    · rw [List.mem_singleton.mp hp]; exact .tail _ (.head _))
  have lx : @LT.lt Nat _ dx x := l2
  have nn1 : @Ne Nat x dx := Nat.ne_of_gt lx
  have U : UpdF dx (dictOf [] 0) ((x, instObj 98 dx) :: (dx, dictOf [] 0) :: news) (fun o => (x, instObj 98 dx) :: (dx, o) :: news) := .tail nn1 (.head fun p hp => Nat.ne_of_lt (l1 p hp))
  have l9 := l1
  clear l1
  (try k_lt2 l2)
  refine' code_defS B F1 X₀ N1 T ?kA hf hke ?k6 ?k7 ?k8 ?k9 ?kB ?_ ?c2 ?c3 ?c4 ?c5 (binds := [(Str.ofString "self", .ref x), (Str.ofString "room", .int room t3)])
  case kA => exact rfl
  case k6 => k_is
  case k7 => k_is
  case k8 => k_room
  case k9 => exact BindsTo.of_eq rfl
  case kB => exact locs rfl
  case c2 => exact rfl
  case c3 => exact rfl
  case c4 => exact rfl
  case c5 => decide
  intro g L' h' hg FG F' N' B' X' T'
  have NB := Stuck.mk NA
  clear FG NA
  (try dsimp only)
  (try k_fold)
  k_steps
  all_goals (try dsimp only)
  all_goals (try k_unfold)
  rename Fr g L' _ _ => F9
  rename News g L' _ _ => N9
  have kp : Keep [dx] h1 _ := keep_led hg F9 N1 N9 (by
    intro p hp
    rcases List.mem_cons.mp hp with rfl | hp
    · exact .inr (.head _)
    · rw [List.mem_singleton.mp hp]; exact .inl (.head _))
  exact ⟨rfl, k _ _ x dx _ _ _ _ _ _ (kp.fr1 F1 NB.out U) (kp.news1 NB.out U (N9.get (.tail _ (.head _)))) l9 lx⟩

theorem pool_call {w : World} {A₀ : Around} {s : Shared} {base h₀ : Heap} {outer : List Env} {env : Env} {L : Addr} {m mg mb : Str → Option Value} {mean : ExcName → Option Value} {loose : List Str} {d u : Nat} {gs : Option (List Code)}
  {sc P : Addr} {oP : Obj} {kk : Int} {tk₀ : Tok} {vs : List Value} {ns : List Int} {news : List (Addr × Obj)} {Q : Value → Shared → Prop} {E : Value → Shared → Prop}
  (B : Below A₀ base outer h₀) (F : Fr h₀ L s.heap m) (X₀ : (hd.heap_39 w.params).In h₀) (T : Top topProg loose mean mg mb h₀)
  (N : News h₀ L s.heap news) (hP : (P, oP) ∈ news) (hL : base.IsList sc vs.toArray) (hI : IntsAre vs ns) (hlay : (PyData.list (List.map PyData.int ns)).layable0 = true) (hlen : ns.length ≤ 63) (hk0 : 0 ≤ kk) (hk1 : kk ≤ 1)
  (hf : env.frame = some L) (hke : env.scope.kind = .function) (hdep : d + 50 < recursionLimit) (hun : u + 500 < cLine)
  (k : ∀ h' tk l a b ta tb n, Fr h₀ L h' m → News h₀ L h' ((l, listOf #[.int a ta, .int b tb] n) :: news) → (∀ p ∈ news, @Ne Nat p.1 l) → (@LT.lt Nat _ P l) → 0 ≤ a → 0 ≤ b → b < 2147483647 → Q (.ref l) {s with heap := h', toks := tk}) :
  wpAny (model Challenge.rw_on0333_01.row.prog w) ⟨none, d, some (env :: outer), gs, u⟩ (call (.ref 109) [.ref sc, .int kk tk₀]) Q E s :=
  wpAny_call (pool_spec B F X₀ T (fun p hp => by rw [List.mem_singleton.mp hp]; exact N _ hP) hL hI hlay hlen hk0 hk1 hf hke hdep hun
    fun h' tk l a b ta tb n kp e fr lP a0 b0 b1 => by
      obtain ⟨oL, es, ep, hoL, _⟩ := F.ns
      refine k h' tk l a b ta tb n (keep0 kp F N).1 (fun p hp => ?_) (fun p hp => fr _ _ (N p hp).1) lP a0 b0 b1
      rcases List.mem_cons.mp hp with rfl | hp
      · refine ⟨e, (fr _ _ hoL).symm, ?_⟩
        cases hq : h₀.get? l with
        | none => rfl
        | some o => exact absurd rfl (fr _ _ (F.keep _ _ hq))
      · exact (keep0 kp F N).2 p hp)
end Mine

namespace Mine
theorem top_off_SNR : True := by
  w_top off
  trivial
local macro_rules | `(tactic| k_room) => `(tactic| ((try simp only [depth_mark, depth_under_make, depth_under_kw, depth_in1, depth_deeper, depth_caller]); (try dsimp only); omega))
local macro_rules | `(tactic| k_units) => `(tactic| ((try simp only [units_in1, units_deeper, Around.mark_units]); (try dsimp only); omega))

local macro_rules | `(tactic| walk_at "call ref") => `(tactic| (k_here; (with_reducible show wpAny _ _ (PySem.call (Value.ref 44) _) _ _ _); k_dflt (refine' exc_made ?B ?F ?X ?T ?hf ?hke ?hd ?hu ?_; (case B => k_asm); (case F => k_asm); (case X => k_asm); (case T => k_asm); (case hf => exact rfl); (case hke => exact rfl); (case hd => k_room); (case hu => (dsimp only; omega)); k_whole); intro h' tk' e' MX'))
local macro_rules | `(tactic| walk_at "exec Raise some none") => `(tactic| (refine stuck ?_))
theorem under_mk (d u : Nat) (fr : List Env) (gs : Option (List Code)) (C : Addr) (vals : List Value) : ∃ gs' u', (⟨none, d, some fr, gs, u⟩ : Around).under (.builtin "type.__call__" ⟨.ref C :: vals, []⟩) = ⟨none, d+1, some fr, gs', u'⟩ ∧ u' ≤ u + 10 := by
  refine ⟨pushGuards (Code.builtin "type.__call__" ⟨.ref C :: vals, []⟩).guards gs, u + (Code.builtin "type.__call__" ⟨.ref C :: vals, []⟩).cUnits, ?_, ?_⟩
  · show Around.mk _ _ _ _ _ = _
    congr 1
  · show u + _ ≤ u + 10
    exact Nat.add_le_add_left (Nat.le_of_ble_eq_true rfl) u
theorem new_raise {w : World} {A₀ : Around} {s : Shared} {base h₀ : Heap} {outer : List Env} {env : Env} {L : Addr} {m mg mb : Str → Option Value} {mean : ExcName → Option Value} {loose : List Str} {d u : Nat} {gs : Option (List Code)}
  {news : List (Addr × Obj)} {room : Int} {t3 : Tok} {Q : Value → Shared → Prop} {E : Value → Shared → Prop}
  (B : Below A₀ base outer h₀) (F : Fr h₀ L s.heap m) (X₀ : (hd.heap_39 w.params).In h₀) (T : Top topProg loose mean mg mb h₀)
  (N : News h₀ L s.heap news) (hro : room < 1)
  (hf : env.frame = some L) (hke : env.scope.kind = .function) (hdep : d + 80 < recursionLimit) (hun : u + 800 < cLine)
  (k : ∀ h' tk e G t vs, Fr h₀ L G m → RaisedS base G (env :: outer) e (.ref 44) t vs news h' → G.UpToSlots h' → E (.ref e) {s with heap := h', toks := tk}) :
  wpAny (model Challenge.rw_on0333_01.row.prog w) ⟨none, d, some (env :: outer), gs, u⟩ (call (.ref 98) [.int room t3]) Q E s := by
  revert X₀; k_fill; intro X₀
  refine' call_cls F X₀ N ?k4 ?k5 ?k6 ?_
  case k4 => k_is
  case k5 => k_is
  case k6 => k_is
  intro x dx h1 F1 NA l1 l2
  clear l1
  (try k_lt2 l2)
  obtain ⟨gs2, u2, hU, hu2⟩ := under_mk d u (env :: outer) gs 98 [.int room t3]
  rw [hU]
  refine' code_defS B F1 X₀ NA T ?kA hf hke ?k6 ?k7 ?k8 ?k9 ?kB ?_ ?c2 ?c3 ?c4 ?c5 (binds := [(Str.ofString "self", .ref x), (Str.ofString "room", .int room t3)])
  case kA => exact rfl
  case k6 => k_is
  case k7 => k_is
  case k8 => k_room
  case k9 => exact BindsTo.of_eq rfl
  case kB => exact locs rfl
  case c2 => exact rfl
  case c3 => exact rfl
  case c4 => exact rfl
  case c5 => decide
  intro g L' h' hg FG F' N' B' X' T'
  (try dsimp only)
  (try k_fold)
  have NF : Stuck (News g L' h' news) := ⟨fun p hp => N' p (.tail _ (.tail _ hp))⟩
  have NQ : News g L' h' [(x, instObj 98 dx), (dx, dictOf [] 0)] := fun p hp => N' p (by
    rcases List.mem_cons.mp hp with rfl | hp
    · exact .head _
    · rw [List.mem_singleton.mp hp]; exact .tail _ (.head _))
  clear N N' NA
  k_steps
  all_goals (refine ⟨?_⟩)
  all_goals (obtain ⟨nm, qn, Nn, bs, bm, hdct, sn, sub, ab, col, dd, j0, j1, j2, j3, j5, newId, hC, hbase, hbT⟩ := kts_cls (T := "BaseException") X' (show ktsIn (hd.heap_39 w.params) 44 "BaseException" = true by kts_isx))
  all_goals (refine exc_raise (C := 44) (nm := nm) (q := qn) (N := Nn) (bs := bs) (bm := bm) (hdct := hdct) (sn := sn) (sub := sub) (ab := ab) (col := col) (dd := dd) (k0 := j0) (k1 := j1) (k2 := j2) (k3 := j3) (k5 := j5) (newId := newId) hbase rfl ?_)
  all_goals k_steps
  all_goals (rename MadeX _ _ _ _ => MX)
  all_goals (obtain ⟨oe, t₀, vs₀, he, hcl, hda, htn, ht⟩ := id MX.there)
  all_goals (refine ⟨_, t₀, oe, rfl, MX.keeps _ _ (F'.keep _ _ hC), he, hcl, hda, ?_⟩)
  all_goals k_unfold
  all_goals (refine leave_madeX B' MX F' NF.out (fun h₃ t₃ vs₃ R₃ U₃ => ?_) rfl)
  all_goals (exact k h₃ _ _ g t₃ vs₃ FG R₃ U₃)
end Mine

namespace Mine
theorem top_off_W5 : True := by
  w_top off
  trivial
local macro_rules | `(tactic| k_updF) => `(tactic| first | (refine' UpdF.head ?a; (case a => (first | assumption | k_all))) | (refine' UpdF.tail ?a ?b; (case a => k_ne); (case b => k_updF)))
local macro_rules | `(tactic| walk_at "call ref") => `(tactic| (k_here; (with_reducible show wpAny _ _ (PySem.call (Value.ref 109) _) _ _ _); k_dflt (first | (refine' pool_call (P := 139) ?B ?F ?X ?T ?N ?hP ?hL ?hI ?hlay ?hlen ?hk0 ?hk1 ?hf ?hke ?hd ?hu ?_; (case B => k_asm); (case F => k_asm); (case X => k_asm); (case T => k_asm); (case N => k_asm); (case hP => k_mem); (case hL => assumption); (case hI => assumption); (case hlay => assumption); (case hlen => omega); (case hk0 => omega); (case hk1 => omega); (case hf => exact rfl); (case hke => exact rfl); (case hd => (show _ < _; decide)); (case hu => (show _ < _; decide)); k_whole) | refine stuck ?_)))
local macro_rules | `(tactic| walk_at "call ref") => `(tactic| (k_here; (with_reducible show wpAny _ _ (PySem.call (Value.ref 116) _) _ _ _); k_dflt (first | (refine' take_call ?B ?F ?X ?T ?N ?U ?hf ?hke ?hd ?hu ?ha ?hb0 ?hb1 ?t0 ?t1 ?_; (case B => k_asm); (case F => k_asm); (case X => k_asm); (case T => k_asm); (case N => k_asm); (case U => k_updF); (case hf => exact rfl); (case hke => exact rfl); (case hd => (show _ < _; decide)); (case hu => (show _ < _; decide)); (case ha => omega); (case hb0 => omega); (case hb1 => omega); (case t0 => omega); (case t1 => omega); k_whole) | refine stuck ?_)))
local macro_rules | `(tactic| walk_at "call ref") => `(tactic| (k_here; (with_reducible show wpAny _ _ (PySem.call (Value.ref 98) _) _ _ _); k_dflt (first | (refine' new_call ?B ?F ?X ?T ?N ?h0 ?h1 ?hf ?hke ?hd ?hu ?_; (case B => k_asm); (case F => k_asm); (case X => k_asm); (case T => k_asm); (case N => k_asm); (case h0 => omega); (case h1 => omega); (case hf => exact rfl); (case hke => exact rfl); (case hd => (show _ < _; decide)); (case hu => (show _ < _; decide)); k_whole) | refine stuck ?_); intro h' tk' q' qd' h1' h2' k1' k2' tr' tb' F' N' l1' l2'; (have lk1 := l1'); (have lk2 := l2'); (try k_lt l1'); (try k_lt2 l2')))
local macro_rules | `(tactic| walk_at "call ref") => `(tactic| (k_here; (with_reducible show wpAny _ _ (PySem.call (Value.ref 142) _) _ _ _); refine stuck ?_))
local macro_rules | `(tactic| walk_at "call ref") => `(tactic| (k_here; (with_reducible show wpAny _ _ (PySem.call (Value.ref 137) _) _ _ _); refine stuck ?_))
local macro_rules | `(tactic| walk_at "call ref") => `(tactic| (k_here; (with_reducible show wpAny _ _ (PySem.call (Value.ref 130) _) _ _ _); refine stuck ?_))
local macro_rules | `(tactic| walk_at "call ref") => `(tactic| (k_here; (with_reducible show wpAny _ _ (PySem.call (Value.ref 81) _) _ _ _); refine stuck ?_))
local macro_rules | `(tactic| walk_at "exec For Name Call cons nil") => `(tactic| (refine stuck ?_))
local macro_rules | `(tactic| walk_at "pyIter ref") => `(tactic| (refine stuck ?_))
local macro_rules | `(tactic| walk_at "call ref") => `(tactic| (k_here; (have := (by with_reducible assumption : Mark3)); refine stuck ?_))
local macro_rules | `(tactic| walk_at "LedPost") => `(tactic| (refine stuck ?_))

theorem hnc_of {c f : Addr} {o : Obj} (h : @LT.lt Nat _ c f) : c ∉ [(f, o)].map (·.1) := fun hm => Nat.ne_of_lt h (List.mem_singleton.mp hm)
theorem on_try : PySem.Challenge.rw_on0333_01.Holds := hd (by
  w_strict (
    k_go0
    (all_goals try k_fold)
    rename CodeHd _ (141, 139).1 _ => C1
    rename CodeHd _ (148, 144).1 _ => C2
    k_steps
    refine ⟨?_⟩
    rename Fr _ _ _ _ => FE
    (with_unfolding_all refine' For_invVF FE ?k1 ?k2 ?_)
    case k1 => exact rfl
    case k2 => exact rfl
    k_steps
    refine ⟨?_⟩
    rename IsRange _ _ _ _ _ _ _ _ => rgX
    rename Fr _ _ _ _ => FE
    rename News _ _ _ _ => NE
    refine iter_led (led := fun (c : Array Value × List (Addr × Obj)) => (139, tabObj c.1) :: (144, tabObj #[]) :: c.2) (ok := fun c => TabCs LQ LP1 LP2 c.1 c.2) (Y := [("source" : Str), ("room" : Str), ("row" : Str), ("queue" : Str), ("turn" : Str)]) (c₀ := (#[], [])) (by rfl) rgX (by split <;> split <;> omega) (by split <;> split <;> omega) FE NE tabCs_nil (fun k t c u I oI h tk hk0 hk1 hok hoI hnI F' N' => ?_) (fun c u h tk hok F' N' => ?_)
    · clear FE NE rgX
      have hk2 : k ≤ 1 := by (revert hk1; split <;> split <;> omega)
      obtain ⟨ps, cs⟩ := c
      (try dsimp only at hok hnI F' N')
      (try dsimp only)
      k_steps
      refine ⟨?_⟩
      rename Fr _ _ _ _ => FE
      (with_unfolding_all refine' For_invVF FE ?k1 ?k2 ?_)
      case k1 => exact rfl
      case k2 => exact rfl
      k_steps
      refine ⟨?_⟩
      rename IsRange _ _ _ _ _ _ _ _ => rgX
      rename Fr _ _ _ _ => FE
      rename News _ _ _ _ => NE
      refine iter_inner NE (by rfl) rgX (by omega) (by omega) FE (by assumption) (by assumption) (by assumption) (by assumption) hnI (by assumption) (by assumption) (by assumption) (by assumption) hok (by omega) (fun k2 t2 c2 u2 I2 oI2 h2 tk2 j0 j1 hq hi2 ord hn2 F2 N2 => ?_) (fun ps2 cs2 u2 h2 tk2 tc2 _ F2 N2 => ?_)
      · clear FE NE rgX
        obtain ⟨vs, ns, hb, tb, cc, aa, bb, ta, tb2, nn, ps3, cs3⟩ := c2
        obtain ⟨hI, hB, hr, hn, ha, hb0, hb1, tc⟩ := hq
        obtain ⟨o1, o2, o3, o4, off⟩ := ord
        (try dsimp only at *)
        k_steps
        refine ⟨?_⟩
        rename Below _ _ _ _ => BB
        rename Frag.In _ _ => XX
        rename Top _ _ _ _ _ _ => TT
        rename Fr _ _ _ _ => FE
        rename News _ _ _ _ => NE
        refine right_callT BB FE XX TT NE o1 o2 o3 o4 (fun x hx => ⟨ledQ_ne hn2 x hx, (off x hx).1, (off x hx).2⟩) hi2 hoI C1 tc hI hB hr hn (by omega) (by omega) (by omega) (by omega) ha hb0 hb1 rfl rfl (by show _ < _; decide) (by show _ < _; decide) (fun h5 tk5 vs5 ns5 hb5 tb5 a5 b5 ta5 tb25 n5 c5 ps5 cs5 F5 N5 hI5 hB5 hr5 hn5 a05 b05 b15 tc5 off5 => ?_)
        clear FE NE
        (try dsimp only)
        k_steps
        refine ⟨?_⟩
        refine stands_call BB F5 XX TT N5 (by k_mem) (by k_mem) (by k_mem) (by omega) (by omega) (by omega) hI5 hB5 hr5 (by omega) (by omega) (by omega) rfl rfl (by show _ < _; decide) (by show _ < _; decide) (fun h6 tk6 F6 N6 => ?_)
        (try dsimp only)
        k_steps
        refine ⟨?_⟩
        exact ⟨_, _, ⟨vs5, ns5, hb5, tb5, c5, a5, b5, ta5, tb25, n5, ps5, cs5⟩, _, rfl, F6, N6, ledQ_off hn2 off5, ⟨hI5, hB5, hr5, hn5, a05, b05, b15, tc5⟩, fun z hz _ => by simp [hz]⟩
      · clear FE NE rgX
        (try dsimp only)
        k_steps
        refine ⟨?_⟩
        refine ⟨_, _, (ps2, cs2), _, rfl, F2, N2, outer_off N2 hoI tc2 hnI, tc2, fun z hz hY => ?_⟩
        obtain ⟨z1, z2, z3, z4, z5⟩ := outer_names hY
        simp [hz, z1, z2, z3, z4, z5]
    · clear FE NE rgX
      obtain ⟨ps, cs⟩ := c
      have NT : News _ _ h [(139, tabObj ps), (144, tabObj #[])] := fun p hp => N' p (by
        rcases List.mem_cons.mp hp with rfl | hp
        · exact .head _
        · rw [List.mem_singleton.mp hp]; exact .tail _ (.head _))
      clear N'
      (try dsimp only at F' NT)
      (try dsimp only)
      rename Below _ _ _ _ => BB
      rename Frag.In _ _ => XX
      rename Top _ _ _ _ _ _ => TT
      k_steps
      refine ⟨?_⟩
      rename Fr _ _ _ _ => FE
      rename News _ _ _ _ => NE
      refine put_callN (ns := []) (fs := [97, 98]) (rs := [97, 98]) (z := 2) BB FE XX TT NE (by k_mem) (by k_updF) (by omega) rfl rfl (by decide) (by decide) (by decide) (by decide) rfl rfl rfl rfl (by show _ < _; decide) (by show _ < _; decide) (fun h7 tk7 t7 hb7 tb7 F7 N7 B7 => ?_)
      clear FE NE
      (try dsimp only at N7)
      (try dsimp only)
      k_steps
      refine ⟨?_⟩
      refine put_callN (ns := [97, 98]) (fs := [99, 100]) (rs := [99]) (z := 1) BB F7 XX TT N7 (by k_mem) (by k_updF) (by omega) B7 rfl (by decide) (by decide) (by decide) (by decide) rfl rfl rfl rfl (by show _ < _; decide) (by show _ < _; decide) (fun h8 tk8 t8 hb8 tb8 F8 N8 B8 => ?_)
      clear F7 N7
      (try dsimp only at N8)
      (try dsimp only)
      k_steps
      refine ⟨?_⟩
      rename Fr _ _ _ _ => FE
      rename News _ _ _ _ => NE
      refine stands_call (ns := [97, 98, 99]) BB FE XX TT NE (by k_mem) (by k_mem) (by k_mem) (by omega) (by omega) (by omega) (.cons _ _ (.cons _ _ (.cons _ _ .nil))) B8 (by intro x hx; simp at hx; omega) (by decide) (by decide) (by decide) rfl rfl (by show _ < _; decide) (by show _ < _; decide) (fun h9 tk9 F9 N9 => ?_)
      clear FE NE
      (try dsimp only)
      k_steps
      refine ⟨?_⟩
      rename Fr _ _ _ _ => FE
      rename News _ _ _ _ => NE
      refine refused_callL (rest := []) BB FE XX TT (fun p hp => NE p (by rw [List.mem_singleton.mp hp]; exact .head _)) C2 rfl rfl (by show _ < _; decide) (by show _ < _; decide) ⟨_, _, _, _, rfl, NE.get (.tail _ (.head _)), by assumption, by assumption⟩ (hnc_of (by assumption)) ⟨?_⟩ (fun h11 tk11 F11 K11 => ?_)
      · intro env₁ g₁ L₁ m₁ s₁ u₁ E Q e1 e2 B₁ F₁ N₁ X₁ T₁ hrc₁ hu₁ h10
        have hu9 : u₁ ≤ 100 := Nat.le_trans hu₁ (by show _ ≤ _; decide)
        clear FE NE
        refine wpAny_call ?_
        refine' kla_code B₁ F₁ X₁ N₁ T₁ rfl e1 e2 List.mem_cons_self hrc₁ (by show callerA.depth + 1 + 1 < recursionLimit; decide) rfl (locs rfl) ?_ rfl rfl rfl (by decide)
        intro g₂ L₂ h₂ FG₂ F₂ N₂ B₂ X₂ T₂
        have mk3 : Mark3 := ⟨⟩
        (try dsimp only)
        k_steps
        refine ⟨?_⟩
        refine new_raise B₂ F₂ X₂ T₂ N₂ (by decide) rfl rfl (by show callerA.depth + 1 + 1 + 1 + 80 < recursionLimit; decide) (by show u₁ + 3 + 800 < 9900; omega) (fun h₃ tk₃ e₃ G₃ t₃ vs₃ FG₃ R₃ U₃ => ?_)
        refine leave_onX B₂ FG₃ rfl R₃ U₃ (fun h₄ R₄ U₄ => ?_)
        exact h10 h₄ _ e₃ g₂ t₃ vs₃ FG₂ R₄ U₄
      have N11 := K11 _ NE
      clear FE NE K11
      (try dsimp only at N11)
      (try dsimp only)
      k_steps
      refine ⟨?_⟩
      rename Fr _ _ _ _ => FE
      rename News _ _ _ _ => NE
      refine refused_callL (rest := []) BB FE XX TT (fun p hp => NE p (by rw [List.mem_singleton.mp hp]; exact .head _)) C2 rfl rfl (by show _ < _; decide) (by show _ < _; decide) ⟨_, _, _, _, rfl, NE.get (.tail _ (.head _)), by assumption, by assumption⟩ (hnc_of (by assumption)) ⟨?_⟩ (fun h11 tk11 F11 K11 => ?_)
      · intro env₁ g₁ L₁ m₁ s₁ u₁ E Q e1 e2 B₁ F₁ N₁ X₁ T₁ hrc₁ hu₁ h10
        have hu9 : u₁ ≤ 100 := Nat.le_trans hu₁ (by show _ ≤ _; decide)
        clear FE NE
        refine wpAny_call ?_
        refine' kla_code B₁ F₁ X₁ N₁ T₁ rfl e1 e2 List.mem_cons_self hrc₁ (by show callerA.depth + 1 + 1 < recursionLimit; decide) rfl (locs rfl) ?_ rfl rfl rfl (by decide)
        intro g₂ L₂ h₂ FG₂ F₂ N₂ B₂ X₂ T₂
        have mk3 : Mark3 := ⟨⟩
        (try dsimp only)
        k_steps
        refine ⟨?_⟩
        refine new_raise B₂ F₂ X₂ T₂ N₂ (by decide) rfl rfl (by show callerA.depth + 1 + 1 + 1 + 80 < recursionLimit; decide) (by show u₁ + 3 + 800 < 9900; omega) (fun h₃ tk₃ e₃ G₃ t₃ vs₃ FG₃ R₃ U₃ => ?_)
        refine leave_onX B₂ FG₃ rfl R₃ U₃ (fun h₄ R₄ U₄ => ?_)
        exact h10 h₄ _ e₃ g₂ t₃ vs₃ FG₂ R₄ U₄
      have N11 := K11 _ NE
      clear FE NE K11
      (try dsimp only at N11)
      (try dsimp only)
      k_steps
    ))
end Mine

theorem PySem.Challenge.cw_on0333_01_holds : PySem.Challenge.rw_on0333_01.Holds := by
  exact Mine.on_try
