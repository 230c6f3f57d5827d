import PyProof.Rows.All
import Wide.All
import OpenK.AllK
import Wide.FinOn
import PySem.Challenge.RW_pf0161_01
open PySem PySem.W PySem.Spec PySem.Calls PyProof.Rows
set_option Elab.async false
set_option maxRecDepth 100000
set_option maxHeartbeats 8000000
namespace Mine
/-- what stands in the head's slot for the top's run; the run itself is shown below, one lemma a row of the world's (rowF, rowT) -/
def LeftT : Prop := LeftO (plainProg []) (plainProg []) [] (fun _ => true) (fun _ => ()) (fun _ => ()) 1000
end Mine
namespace Mine.PySem.W
/-- the library's theorem, its first premise moved into the last one -/
theorem holds_open {r : OpenRow} {q : Program} {loose : List Str} {Xt : Shared → Bool} {XP : (Str → Option Value) → Heap → Prop} {α : Type} {Yf : Shared → α} {Ya : World → α} {YP : World → Heap → Prop} {d : DefRec} {kwd : List (Str × PySem.Expr)} {N : Nat}
    (lft : LeftT) (hY : ∀ w s, Yf s = Ya w → YP w s.heap) (hYk : ∀ w h h', YP w h → (∀ b o, h.get? b = some o → h'.get? b = some o) → YP w h')
    (hX : ∀ s, Xt s = true → XP (s.heap.nsMap mainGlobals) s.heap) (hXk : ∀ mg h h', XP mg h → (∀ b o, h.get? b = some o → h'.get? b = some o) → XP mg h')
    (hdef : defOf q r.name = some (d, kwd)) (hp : r.prog.theDef r.name = some (d.params, d.body, d.scope)) (hk : kwWritten? d.params.kwonlyargs d.params.kw_defaults = some kwd) (hRf : ∀ s, Xt s = true → RecFacts r.records s.heap) (hwr : (!r.writes || r.records.isEmpty) = true)
    (k1 : r.wellSaid = true) (ok : (chainsOk q && opensWell r.prog && (frees r.toRowW && r.within.isEmpty)) = true) (hb : r.prog.bare) (hw : r.toRowW.promised)
    (call : LeftO r.prog q loose Xt Yf Ya N ∧ WalkO q loose XP YP r.toRowW d kwd fun f vs => PySem.call f vs) : r.Holds :=
  let _ := lft
  _root_.PySem.W.holds_open call.1 hY hYk hX hXk hdef hp hk hRf hwr k1 ok hb hw call.2
end Mine.PySem.W
namespace Mine
open_top hd for PySem.Challenge.rw_pf0161_01
theorem left2 {p q : Program} {loose : List Str} {Xt : Shared → Bool} {α : Type} {Yf : Shared → α} {Ya : World → α} {N : Nat} {H₀ : Params → Heap} {gs₀ : Array GenState} {d₀ : Drawn} {k₀ : Nat} (row : String)
    (open_ : ∀ w : World, (fencedOpening treeTable p w N).map (fun s => (s.heap, s.gens, s.drawn, s.toks)) = some (H₀ w.params, gs₀, d₀, k₀))
    (hf : ∀ (w : World) (os : OsState), (topFrom treeTable p (w.withFollow row false) N ⟨H₀ (w.withFollow row false).params, gs₀, d₀, k₀, os⟩).map (fun s => (openSeen q loose (importedModules p.main.body) Xt true s, Yf s)) = some (openGood q loose, Ya (w.withFollow row false)))
    (ht : ∀ (w : World) (os : OsState), (topFrom treeTable p (w.withFollow row true) N ⟨H₀ (w.withFollow row true).params, gs₀, d₀, k₀, os⟩).map (fun s => (openSeen q loose (importedModules p.main.body) Xt true s, Yf s)) = some (openGood q loose, Ya (w.withFollow row true))) :
    LeftO p q loose Xt Yf Ya N := fun w => by
  obtain ⟨⟨h, gs, d, k, os⟩, e, e'⟩ := Option.map_eq_some_iff.mp (open_ w)
  obtain ⟨rfl, rfl, rfl, rfl⟩ : h = H₀ w.params ∧ gs = gs₀ ∧ d = d₀ ∧ k = k₀ := by simpa using e'
  unfold openEnds
  rw [e]
  have e1 := World.withFollow_self w row
  cases hb : w.params.followText row <;> rw [hb] at e1
  · have := hf w os
    rw [e1] at this
    exact this
  · have := ht w os
    rw [e1] at this
    exact this
abbrev LeftOf {L W H : Prop} (_ : L ∧ W → H) : Prop := L
abbrev RowOf {p q : Program} {loose : List Str} {Xt : Shared → Bool} {α : Type} {Yf : Shared → α} {Ya : World → α} {N : Nat} {W H : Prop} (_ : LeftO p q loose Xt Yf Ya N ∧ W → H) (H₀ : Params → Heap) (gs₀ : Array GenState) (d₀ : Drawn) (k₀ : Nat) (row : String) (b : Bool) : Prop :=
  ∀ (w : World) (os : OsState), (topFrom treeTable p (w.withFollow row b) N ⟨H₀ (w.withFollow row b).params, gs₀, d₀, k₀, os⟩).map (fun s => (openSeen q loose (importedModules p.main.body) Xt true s, Yf s)) = some (openGood q loose, Ya (w.withFollow row b))
theorem rowF : RowOf hd boot_heap (Array.mk []) boot_drawn boot_toks "special-get-raises" false := by
  intro w os
  unfold topFrom
  rewrite [PySem.W.Fast.te14082659384304107361, PySem.W.Fast.te14364793385576792824, PySem.W.Fast.te4187177175401517315]
  kernel_rfl
theorem rowT : RowOf hd boot_heap (Array.mk []) boot_drawn boot_toks "special-get-raises" true := by
  intro w os
  unfold topFrom
  rewrite [PySem.W.Fast.te14082659384304107361, PySem.W.Fast.te14364793385576792824, PySem.W.Fast.te4187177175401517315]
  kernel_rfl
theorem left0 : LeftOf hd := left2 "special-get-raises" (boot_open (by kernel_rfl) (by kernel_rfl) (fun _ => by kernel_rfl)) rowF rowT
theorem useL {L W H : Prop} (h : L ∧ W → H) (l : L) (w : W) : H := h ⟨l, w⟩
noncomputable abbrev lo0 : List Str := looseW hd.view_39 [Str.ofString "LendError", Str.ofString "BITS"] ++
        List.map (fun x => x.name) (recsOf hd.view_39) ++
      List.map (fun x => x.fst) (litsOf hd.view_39) ++
    List.map (fun x => x.name) (clssOf hd.view_39 (looseW hd.view_39 [Str.ofString "LendError", Str.ofString "BITS"]))
abbrev Led := List (Addr × Obj)
abbrev Got := Value → Shared → Prop
/-- what a call of the def at f answers: from a frame of the text's, with the ledger news; behind it a value and a ledger within Post -/
abbrev Meet (lv : Nat) (w : World) (mean : ExcName → Option Value) (mg mb : Str → Option Value) (f : Addr) (news : Led) (vs : List Value) (Post : Value → Led → Prop) : Prop :=
  ∀ (dp un : Nat) (gd : Option (List Code)) (cn : Str) (cs : Scope) (a : Addr) (ccd : Value) (cl : List (Str × Addr)) (outer : List Env) (A₀ : Around) (base h₀ : Heap) (L : Addr) (m : Str → Option Value) (s : Shared) (Q E : Value → Shared → Prop),
    Below A₀ base outer h₀ → Fr h₀ L s.heap m → (hd.heap_39 w.params).In h₀ → News h₀ L s.heap news → Top topProg lo0 mean mg mb h₀ → cs.kind = .function → dp + lv < recursionLimit → un + 8 * lv < cLine →
    (∀ (r : Value) (news' : Led) (h' : Heap) (tk' : Nat), Post r news' → Fr h₀ L h' m → News h₀ L h' news' → Q r { s with heap := h', toks := tk' }) →
    wpAny (model PySem.Challenge.rw_pf0161_01.row.prog w) (ktrTop dp un gd cn cs L a ccd cl outer) (call (.ref f) vs) Q E s
theorem fmod_lo {a b : Int} (hb : 0 < b) : 0 ≤ a.fmod b := Int.fmod_nonneg_of_pos a hb
theorem fmod_hi {a b : Int} (hb : 0 < b) : a.fmod b < b := Int.fmod_lt_of_pos a hb
local macro_rules | `(tactic| k_all) => `(tactic| with_reducible assumption)
theorem take_meets {w : World} {mean : ExcName → Option Value} {mg mb : Str → Option Value} {rest : Led} {src : Addr} {x y top : Int} {tx ty tt : Tok} {n : Nat}
    (hne : ∀ p ∈ rest, p.1 ≠ src) (hy : 0 ≤ y ∧ y < 2147483647) (ht : 1 ≤ top ∧ top ≤ 4194304) :
    Meet 2 w mean mg mb 153 ((src, listOf #[.int x tx, .int y ty] n) :: rest) [.ref src, .int top tt]
      (fun r news' => ∃ (k : Int) (tk : Tok) (x' y' : Int) (tx' ty' : Tok) (n' : Nat), r = .int k tk ∧ news' = (src, listOf #[.int x' tx', .int y' ty'] n') :: rest ∧ 0 ≤ k ∧ k < top ∧ 0 ≤ y' ∧ y' < 2147483647) := by
  unfold Meet
  k_fill
  intro dp un gd cn cs a ccd cl outer A₀ base h₀ L m s Q E B F X N T hk hdp hun hret
  refine wpAny_call ?_
  k_dflt ktr_enter
  k_steps
  · refine' hret _ _ _ _ ?zp ?zF ?zN
    case zN => assumption
    case zF => assumption
    exact ⟨_, _, _, _, _, _, _, rfl, rfl, fmod_lo (by omega), fmod_hi (by omega), hy.1, hy.2⟩
  · refine PyProof.Rows.mul_int ?_ (IntMulOk.of_right (intBits_le_64 ?_ ?_))
    · k_steps
      refine' hret _ _ _ _ ?yp ?yF ?yN
      case yN => assumption
      case yF => assumption
      exact ⟨_, _, _, _, _, _, _, rfl, rfl, fmod_lo (by omega), fmod_hi (by omega), fmod_lo (by decide), fmod_hi (by decide)⟩
    · exact Int.lt_of_lt_of_le (by decide) (fmod_lo (b := 2147483647) (by decide))
    · exact Int.lt_trans (fmod_hi (b := 2147483647) (by decide)) (by decide)
/-- the draws' source: two ints, the second within its modulus -/
def IsSrc (o : Obj) : Prop := ∃ (x y : Int) (tx ty : Tok) (n : Nat), o = listOf #[.int x tx, .int y ty] n ∧ 0 ≤ y ∧ y < 2147483647
theorem meet_upd {lv : Nat} {w : World} {mean : ExcName → Option Value} {mg mb : Str → Option Value} {f src : Addr} {vs : List Value} {o : Obj} {news : Led} {u : Obj → Led} {P : Value → Prop} (U : UpdF src o news u)
    (h : ∀ rest : Led, (∀ p ∈ rest, p.1 ≠ src) → (∀ p ∈ news, p.1 ≠ src → p ∈ rest) → Meet lv w mean mg mb f ((src, o) :: rest) vs (fun r news' => ∃ o', IsSrc o' ∧ news' = (src, o') :: rest ∧ P r)) :
    Meet lv w mean mg mb f news vs (fun r news' => ∃ o', IsSrc o' ∧ news' = u o' ∧ P r) := by
  obtain ⟨pre, post, rfl, hu, h1, h2⟩ := U.split
  intro dp un gd cn cs a ccd cl outer A₀ base h₀ L m s Q E B F X N T hk hdp hun hret
  refine h (pre ++ post) (fun p hp => (List.mem_append.mp hp).elim (h1 p) (h2 p)) (fun p hp hn => List.mem_append.mpr ((List.mem_append.mp hp).imp id fun hq => (List.mem_cons.mp hq).resolve_left fun e => hn (by rw [e]))) dp un gd cn cs a ccd cl outer A₀ base h₀ L m s Q E B F X (fun p hp => N p ?_) T hk hdp hun ?_
  · rcases List.mem_cons.mp hp with rfl | hp
    · exact List.mem_append.mpr (.inr (.head _))
    · exact List.mem_append.mpr ((List.mem_append.mp hp).imp id (.tail _))
  · rintro r news' h' tk' ⟨o', ho, rfl, hP⟩ F' N'
    refine hret r (u o') h' tk' ⟨o', ho, rfl, hP⟩ F' (fun p hp => N' p ?_)
    rw [hu] at hp
    rcases List.mem_append.mp hp with hp | hp
    · exact .tail _ (List.mem_append.mpr (.inl hp))
    · rcases List.mem_cons.mp hp with rfl | hp
      · exact .head _
      · exact .tail _ (List.mem_append.mpr (.inr hp))
theorem take_upd {w : World} {mean : ExcName → Option Value} {mg mb : Str → Option Value} {src : Addr} {o : Obj} {news : Led} {u : Obj → Led} {top : Int} {tt : Tok} (U : UpdF src o news u) (ho : IsSrc o) (ht : 1 ≤ top ∧ top ≤ 4194304) :
    Meet 2 w mean mg mb 153 news [.ref src, .int top tt] (fun r news' => ∃ o', IsSrc o' ∧ news' = u o' ∧ ∃ (k : Int) (tk : Tok), r = .int k tk ∧ 0 ≤ k ∧ k < top) := by
  obtain ⟨x, y, tx, ty, n, rfl, hy⟩ := ho
  refine meet_upd U fun rest hne _ => ?_
  intro dp un gd cn cs a ccd cl outer A₀ base h₀ L m s Q E B F X N T hk hdp hun hret
  refine take_meets hne hy ht dp un gd cn cs a ccd cl outer A₀ base h₀ L m s Q E B F X N T hk hdp hun ?_
  rintro r news' h' tk' ⟨k, tk, x', y', tx', ty', n', rfl, rfl, h1, h2, h3, h4⟩ F' N'
  exact hret _ _ h' tk' ⟨_, ⟨x', y', tx', ty', n', rfl, h3, h4⟩, rfl, k, tk, rfl, h1, h2⟩ F' N'
theorem item_of {prog : Program} {w : World} {A : Around} {E : Value → Shared → Prop} {s : Shared} {value slice : PySem.Expr} {l : Addr} {vs : List Value} {k : Int} {u : Tok} {Q : Value → Shared → Prop}
    (hl : s.heap.IsList l vs.toArray) (h0 : 0 ≤ k) (hk : k < (vs.length : Int)) (hn : vs.length ≤ 100) (h : ∀ v ∈ vs, Q v s)
    (hs : subscripted slice false (.ref l) (.int k u) = operate [.ref l, .int k u] (getItem (.ref l) (.int k u)) := by with_unfolding_all rfl) :
    wpAny (model prog w) A (subscriptTail value slice (.ref l) (.int k u)) Q E s := by
  have hi : k.toNat < vs.length := by omega
  exact tail_any hl.typeIs slot_list_getitem.lookup (wpAny_getItem_list hl h0 (by omega) (x := vs[k.toNat]) (by simp [hi]) (h _ (List.getElem_mem hi))) hs
theorem isl {h₀ h : Heap} {L t : Addr} {news : Led} {vs : Array Value} {n : Nat} (N : News h₀ L h news) (hm : (t, listOf vs n) ∈ news) : h.IsList t vs := ⟨_, (N _ hm).1, rfl, n, rfl⟩
theorem len_of {prog : Program} {w : World} {A : Around} {E : Value → Shared → Prop} {s : Shared} {l : Addr} {vs : List Value} {Q : Value → Shared → Prop}
    (hl : s.heap.IsList l vs.toArray) (hn : vs.length ≤ 100) (h : Q (.int (vs.length : Int) (s.toks + 1)) { s with toks := s.toks + 1 + 1 }) : wpAny (model prog w) A (call (.builtin "len") [.ref l]) Q E s :=
  len_list hl (by simp; omega) (by simpa using h)
local macro_rules | `(tactic| walk_at "call builtin:len") => `(tactic| (k_here; k_dflt (refine' len_of (isl ?zN ?zm) ?zh ?_; (case zN => k_asm); (case zm => first | (refine List.Mem.tail _ ?_; assumption) | assumption); (case zh => omega))))
local macro_rules | `(tactic| walk_at "subscriptTail") => `(tactic| (k_here; k_dflt (refine' item_of (isl ?zN ?zm) ?z0 ?z1 ?zh ?_; (case zN => k_asm); (case zm => first | (refine List.Mem.tail _ ?_; assumption) | assumption); (case z0 => assumption); (case z1 => assumption); (case zh => omega)); intro v' hv'))
local macro_rules | `(tactic| walk_at "call ref") => `(tactic| (k_here; (with_reducible show wpAny _ _ (PySem.call (Value.ref 153) _) _ _ _); k_dflt (refine' take_upd ?zU ?zo ?zt _ _ _ _ _ _ _ _ _ _ _ _ _ _ _ _ _ ?zB ?zF ?zX ?zN ?zT ?zk ?zd ?zu ?_; (case zB => k_asm); (case zF => k_asm); (case zX => k_asm); (case zN => k_asm); (case zT => k_asm); (case zk => first | exact rfl | assumption); (case zU => k_updF); (case zo => assumption); (case zt => first | decide | omega); (case zd => ktr_room); (case zu => ktr_units)); rintro _ _ h' tk' ⟨o', hO', e1', k', t', e2', hk0', hk1'⟩ F' N'; subst e1'; subst e2'; (try dsimp only at N'); (try k_sweep); (try dsimp only); (try k_fold)))
theorem one_meets {w : World} {mean : ExcName → Option Value} {mg mb : Str → Option Value} {rest : Led} {src t : Addr} {o : Obj} {vs : List Value} {n : Nat}
    (hne : ∀ p ∈ rest, p.1 ≠ src) (ho : IsSrc o) (hv : 1 ≤ vs.length ∧ vs.length ≤ 9) (hm : (t, listOf vs.toArray n) ∈ rest) :
    Meet 4 w mean mg mb 160 ((src, o) :: rest) [.ref src, .ref t]
      (fun r news' => ∃ o', IsSrc o' ∧ news' = (src, o') :: rest ∧ r ∈ vs) := by
  unfold Meet
  k_fill
  intro dp un gd cn cs a ccd cl outer A₀ base h₀ L m s Q E B F X N T hk hdp hun hret
  refine wpAny_call ?_
  k_dflt ktr_enter
  k_steps
  exact hret _ _ _ _ ⟨_, by assumption, rfl, by assumption⟩ (by assumption) (by assumption)
theorem one_upd {w : World} {mean : ExcName → Option Value} {mg mb : Str → Option Value} {news : Led} {u : Obj → Led} {src t : Addr} {o : Obj} {vs : List Value} {n : Nat}
    (U : UpdF src o news u) (ho : IsSrc o) (hv : 1 ≤ vs.length ∧ vs.length ≤ 9) (hne : t ≠ src) (hm : (t, listOf vs.toArray n) ∈ news) :
    Meet 4 w mean mg mb 160 news [.ref src, .ref t] (fun r news' => ∃ o', IsSrc o' ∧ news' = u o' ∧ r ∈ vs) := by
  exact meet_upd U fun rest hr hin => one_meets hr ho hv (hin _ hm hne)
theorem pow_lit {prog : Program} {w : World} {A : Around} {E : Value → Shared → Prop} {s : Shared} {a n c : Int} {t u : Tok} {Q : Value → Shared → Prop} (hn : 0 ≤ n) (hn2 : n ≤ 1000000) (ha : a.natAbs < 2 ^ 64) (e : a ^ n.toNat = c)
    (h : Q (.int c s.toks) { s with toks := s.toks + 1 }) : wpAny (model prog w) A (binaryOp .Pow (.int a t) (.int n u)) Q E s := PyProof.Rows.pow_int_small hn hn2 ha (e ▸ h)
local macro_rules | `(tactic| walk_at "binaryOp Pow int int") => `(tactic| (k_here; (with_reducible first | refine pow_lit (a := 2) (n := 21) (c := 2097152) ?_ ?_ ?_ ?_ ?_ | refine pow_lit (a := 2) (n := 22) (c := 4194304) ?_ ?_ ?_ ?_ ?_ | refine pow_lit (a := 2) (n := 44) (c := 17592186044416) ?_ ?_ ?_ ?_ ?_ | refine pow_lit (a := 2) (n := 64) (c := 18446744073709551616) ?_ ?_ ?_ ?_ ?_ | refine pow_lit (a := 10) (n := 18) (c := 1000000000000000000) ?_ ?_ ?_ ?_ ?_); decide; decide; decide; decide))
local macro_rules | `(tactic| walk_at "call ref") => `(tactic| (k_here; (with_reducible show wpAny _ _ (PySem.call (Value.ref 160) _) _ _ _); k_dflt (refine' one_upd ?zU ?zo ?zv ?zn ?zm _ _ _ _ _ _ _ _ _ _ _ _ _ _ _ _ _ ?zB ?zF ?zX ?zN ?zT ?zk ?zd ?zu ?_; (case zB => k_asm); (case zF => k_asm); (case zX => k_asm); (case zN => k_asm); (case zT => k_asm); (case zk => first | exact rfl | assumption); (case zU => k_updF); (case zo => assumption); (case zm => k_mem); (case zv => exact ⟨Nat.le_of_ble_eq_true rfl, Nat.le_of_ble_eq_true rfl⟩); (case zn => k_ne); (case zd => ktr_room); (case zu => ktr_units)); rintro _ _ h' tk' ⟨o', hO', e1', hV'⟩ F' N'; subst e1'; (try dsimp only at N'); (try k_sweep); (try dsimp only); (try k_fold)))
theorem number_meets {w : World} {mean : ExcName → Option Value} {mg mb : Str → Option Value} {rest : Led} {src : Addr} {o : Obj} {low high : Int} {tl th : Tok}
    (hne : ∀ p ∈ rest, p.1 ≠ src) (ho : IsSrc o) (hv : -(2 ^ 64) ≤ low ∧ low ≤ high ∧ high ≤ 2 ^ 64) :
    Meet 6 w mean mg mb 181 ((src, o) :: rest) [.ref src, .int low tl, .int high th]
      (fun r news' => ∃ o', IsSrc o' ∧ news' = (src, o') :: rest ∧ ∃ (k : Int) (tk : Tok), r = .int k tk ∧ -(2 ^ 70) ≤ k ∧ k ≤ 2 ^ 70) := by
  unfold Meet
  k_fill
  intro dp un gd cn cs a ccd cl outer A₀ base h₀ L m s Q E B F X N T hk hdp hun hret
  refine wpAny_call ?_
  k_dflt ktr_enter
  k_steps
  · rename_i hO hV _ _ kF kN _ _
    refine hret _ _ _ _ ⟨_, hO, rfl, ?_⟩ kF (fun p hp => kN p (List.Mem.tail _ hp))
    simp only [List.mem_cons, List.not_mem_nil, or_false] at hV
    obtain ⟨v1, v2, v3⟩ := hv
    rcases hV with rfl | rfl | rfl | rfl | rfl | rfl | rfl | rfl | rfl
    case' inr.inr.inr.inr.inr.inr.inr.inl => (refine ⟨_, _, rfl, ?_, ?_⟩; (refine Int.le_trans ?_ (Int.add_le_add_left (fmod_lo (by omega)) _); omega); (refine Int.le_trans (Int.le_of_lt (Int.add_lt_add_left (fmod_hi (by omega)) _)) ?_; omega))
    all_goals exact ⟨_, _, rfl, by omega, by omega⟩
theorem number_upd {w : World} {mean : ExcName → Option Value} {mg mb : Str → Option Value} {news : Led} {u : Obj → Led} {src : Addr} {o : Obj} {low high : Int} {tl th : Tok}
    (U : UpdF src o news u) (ho : IsSrc o) (hv : -(2 ^ 64) ≤ low ∧ low ≤ high ∧ high ≤ 2 ^ 64) :
    Meet 6 w mean mg mb 181 news [.ref src, .int low tl, .int high th] (fun r news' => ∃ o', IsSrc o' ∧ news' = u o' ∧ ∃ (k : Int) (tk : Tok), r = .int k tk ∧ -(2 ^ 70) ≤ k ∧ k ≤ 2 ^ 70) :=
  meet_upd U fun rest hr hin => number_meets hr ho hv
theorem fdiv_pos {a b : Int} (hb : 0 < b) : a.fdiv b = a / b := Int.fdiv_eq_ediv_of_nonneg a (Int.le_of_lt hb)
theorem fmod_pos {a b : Int} (hb : 0 < b) : a.fmod b = a % b := Int.fmod_eq_emod_of_nonneg a (Int.le_of_lt hb)
theorem pow_pos2 (p : Nat) : (0 : Int) < 2 ^ p := Int.pow_pos (by decide)
theorem half_div (q : Int) : (q - q.fmod 2).fdiv 2 = q / 2 := by
  rw [fdiv_pos (by decide), fmod_pos (by decide)]; omega
theorem mod_double {x M : Int} (hM : 0 < M) : x % (M * 2) = x % M + (x / M % 2) * M := by
  have h1 := Int.mul_ediv_add_emod x M
  have h2 := Int.mul_ediv_add_emod x (M * 2)
  have h3 : x / (M * 2) = x / M / 2 := (Int.ediv_ediv_of_nonneg (Int.le_of_lt hM)).symm
  have h4 := Int.mul_ediv_add_emod (x / M) 2
  rw [h3] at h2
  generalize x / M = a at *
  generalize a / 2 = b at *
  generalize a % 2 = c at *
  generalize x % M = r at *
  generalize x % (M * 2) = r2 at *
  subst h4
  rw [Int.mul_add] at h1
  have e1 : M * (2 * b) = M * 2 * b := by rw [Int.mul_assoc]
  rw [e1] at h1
  rw [Int.mul_comm c M]
  omega
/-- the last bit of a signed number weighs the other way -/
theorem mod_signed {x M : Int} (hM : 0 < M) : -M + (x - -M) % (M * 2) = x % M + -1 * (x / M % 2) * M := by
  have h0 : x - -M = x + M := by omega
  rw [h0]
  have h1 := Int.mul_ediv_add_emod x M
  have h4 := Int.mul_ediv_add_emod (x / M) 2
  have hr0 := Int.emod_nonneg x (Int.ne_of_gt hM)
  have hr1 := Int.emod_lt_of_pos x hM
  have hc : x / M % 2 = 0 ∨ x / M % 2 = 1 := by omega
  generalize x / M = a at *
  generalize a / 2 = b at *
  generalize hcc : a % 2 = c at *
  generalize x % M = r at *
  rcases hc with rfl | rfl
  · have e : x + M = (M + r) + M * 2 * b := by
      rw [← h1, ← h4, Int.mul_add, ← Int.mul_assoc]; omega
    rw [e, Int.add_mul_emod_self_left, Int.emod_eq_of_lt (by omega) (by omega)]
    omega
  · have e : x + M = r + M * 2 * (b + 1) := by
      rw [← h1, ← h4, Int.mul_add, ← Int.mul_assoc, Int.mul_add]; omega
    rw [e, Int.add_mul_emod_self_left, Int.emod_eq_of_lt (by omega) (by omega)]
    omega
def lowK (sg : Bool) (n : Nat) : Int := if sg then 0 - 2 ^ (n - 1) else 0
def highK (sg : Bool) (n : Nat) : Int := if sg then 2 ^ (n - 1) - 1 else 2 ^ n - 1
def wrapK (sg : Bool) (n : Nat) (x : Int) : Int := lowK sg n + (x - lowK sg n).fmod (2 ^ n)
def ledP (sg : Bool) (n : Nat) (x : Int) (p : Nat) : Int := if sg = true ∧ p = n then wrapK sg n x else x.fmod (2 ^ p)
def LedInv (sg : Bool) (n : Nat) (x : Int) (p : Nat) (found worth left : Int) : Prop := worth = 2 ^ p ∧ left = x.fdiv (2 ^ p) ∧ found = ledP sg n x p ∧ p ≤ n
theorem pow_next (p : Nat) : (2 : Int) ^ (p + 1) = 2 ^ p * 2 := by rw [Int.pow_succ]
theorem led_next {sg : Bool} {n p : Nat} {x f wo l sign : Int} (h : LedInv sg n x p f wo l) (hlt : p < n) (hs : sign = if sg = true ∧ p + 1 = n then -1 else 1) :
    LedInv sg n x (p + 1) (f + sign * l.fmod 2 * wo) (wo + wo) ((l - l.fmod 2).fdiv 2) := by
  obtain ⟨rfl, rfl, rfl, _⟩ := h
  have hM := pow_pos2 p
  have hM2 := pow_pos2 (p + 1)
  refine ⟨by rw [pow_next]; omega, ?_, ?_, hlt⟩
  · rw [half_div, fdiv_pos hM, fdiv_pos hM2, pow_next, Int.ediv_ediv_of_nonneg (Int.le_of_lt hM)]
  · have e0 : ledP sg n x p = x % 2 ^ p := by
      unfold ledP
      rw [if_neg (fun q => absurd q.2 (Nat.ne_of_lt hlt)), fmod_pos hM]
    rw [e0, fdiv_pos hM, fmod_pos (a := x / 2 ^ p) (by decide)]
    unfold ledP
    by_cases hc : sg = true ∧ p + 1 = n
    · rw [if_pos hc] at hs ⊢
      obtain ⟨h1, h2⟩ := hc
      subst h1; subst h2; subst hs
      unfold wrapK lowK
      simp only [if_true, Nat.add_sub_cancel, Int.zero_sub]
      rw [fmod_pos hM2, pow_next, mod_signed hM]
    · rw [if_neg hc] at hs ⊢
      subst hs
      rw [fmod_pos hM2, pow_next, mod_double hM, Int.one_mul]
theorem led_start {sg : Bool} {n : Nat} {x : Int} (hn : 0 < n) : LedInv sg n x 0 0 1 x :=
  ⟨rfl, by rw [Int.pow_zero, fdiv_pos (by decide), Int.ediv_one], by unfold ledP; rw [if_neg (fun q => absurd q.2 (Nat.ne_of_lt hn)), Int.pow_zero, fmod_pos (by decide), Int.emod_one], Nat.zero_le _⟩
theorem led_end {sg : Bool} {n : Nat} {x f wo l : Int} (h : LedInv sg n x n f wo l) : f = wrapK sg n x := by
  obtain ⟨_, _, rfl, _⟩ := h
  unfold ledP
  split
  · rfl
  · rename_i hc
    cases sg with
    | true => exact absurd ⟨rfl, rfl⟩ hc
    | false => unfold wrapK lowK; simp
theorem doubled_meets {w : World} {mean : ExcName → Option Value} {mg mb : Str → Option Value} {news : Led} {many : Int} {tm : Tok} (hv : 0 ≤ many ∧ many ≤ 64) :
    Meet 3 w mean mg mb 167 news [.int many tm] (fun r news' => news' = news ∧ ∃ (tk : Tok), r = .int (2 ^ many.toNat) tk) := by
  unfold Meet
  k_fill
  intro dp un gd cn cs a ccd cl outer A₀ base h₀ L m s Q E B F X N T hk hdp hun hret
  refine wpAny_call ?_
  k_dflt ktr_enter
  k_with_none
  (k_with "pyIter ref" => k_state (fun pre found => found = 2 ^ pre.length ∧ pre.length ≤ 64) "found")
  k_steps
  · rename_i hf _ kF kN _ _
    rw [rangeKs_length, Int.sub_zero] at hf
    subst hf
    exact hret _ _ _ _ ⟨rfl, _, rfl⟩ kF kN
/-- the nine kinds: the word, whether signed, the bits -/
def kindTab : List (Str × Bool × Nat) := [(Str.ofString "i8", true, 8), (Str.ofString "i16", true, 16), (Str.ofString "i32", true, 32), (Str.ofString "i64", true, 64), (Str.ofString "u8", false, 8), (Str.ofString "u16", false, 16), (Str.ofString "u32", false, 32), (Str.ofString "u64", false, 64), (Str.ofString "usize", false, 64)]
def IsKind (k : Str) (sg : Bool) (n : Nat) : Prop := (k, sg, n) ∈ kindTab
theorem IsKind.cases {k : Str} {sg : Bool} {n : Nat} (h : IsKind k sg n) {P : Str → Bool → Nat → Prop} (h1 : P (Str.ofString "i8") true 8) (h2 : P (Str.ofString "i16") true 16) (h3 : P (Str.ofString "i32") true 32) (h4 : P (Str.ofString "i64") true 64)
    (h5 : P (Str.ofString "u8") false 8) (h6 : P (Str.ofString "u16") false 16) (h7 : P (Str.ofString "u32") false 32) (h8 : P (Str.ofString "u64") false 64) (h9 : P (Str.ofString "usize") false 64) : P k sg n := by
  unfold IsKind kindTab at h
  simp only [List.mem_cons, List.not_mem_nil, or_false, Prod.mk.injEq] at h
  rcases h with ⟨rfl, rfl, rfl⟩ | ⟨rfl, rfl, rfl⟩ | ⟨rfl, rfl, rfl⟩ | ⟨rfl, rfl, rfl⟩ | ⟨rfl, rfl, rfl⟩ | ⟨rfl, rfl, rfl⟩ | ⟨rfl, rfl, rfl⟩ | ⟨rfl, rfl, rfl⟩ | ⟨rfl, rfl, rfl⟩ <;> assumption
theorem IsKind.bits {k : Str} {sg : Bool} {n : Nat} (h : IsKind k sg n) : n = 8 ∨ n = 16 ∨ n = 32 ∨ n = 64 := h.cases (P := fun _ _ n => n = 8 ∨ n = 16 ∨ n = 32 ∨ n = 64) (by simp) (by simp) (by simp) (by simp) (by simp) (by simp) (by simp) (by simp) (by simp)
theorem signed_meets {w : World} {mean : ExcName → Option Value} {mg mb : Str → Option Value} {news : Led} {k : Str} {tk : Tok} {sg : Bool} {n : Nat} (hv : IsKind k sg n) :
    Meet 2 w mean mg mb 55 news [.str k tk] (fun r news' => news' = news ∧ r = .bool sg) := by
  refine hv.cases (P := fun k sg _ => Meet 2 w mean mg mb 55 news [.str k tk] (fun r news' => news' = news ∧ r = .bool sg)) ?_ ?_ ?_ ?_ ?_ ?_ ?_ ?_ ?_
  all_goals (
    unfold Meet
    k_fill
    intro dp un gd cn cs a ccd cl outer A₀ base h₀ L m s Q E B F X N T hk hdp hun hret
    refine wpAny_call ?_
    k_dflt ktr_enter
    k_with_none
    k_steps
    rename_i kF kN _ _
    exact hret _ _ _ _ ⟨rfl, congrArg Value.bool (by decide +kernel)⟩ kF kN)
theorem bits_item {w : World} {A : Around} {E : Value → Shared → Prop} {s : Shared} {h₀ : Heap} {L : Addr} {m : Str → Option Value} {value slice : PySem.Expr} {Q : Value → Shared → Prop} {k : Str} {t : Tok} {sg : Bool} {n : Nat}
    (F : Fr h₀ L s.heap m) (X₀ : (hd.heap_39 w.params).In h₀) (hv : IsKind k sg n) (h : ∀ tk, Q (.int (n : Int) tk) { s with toks := s.toks + 1 })
    (hs : subscripted slice false (.ref 48) (.str k t) = operate [.ref 48, .str k t] (getItem (.ref 48) (.str k t)) := by with_unfolding_all rfl) :
    wpAny (model PySem.Challenge.rw_pf0161_01.row.prog w) A (subscriptTail value slice (.ref 48) (.str k t)) Q E s := by
  k_fill
  revert hs h
  refine hv.cases (P := fun k sg n => (∀ tk, Q (.int (n : Int) tk) { s with toks := s.toks + 1 }) → (subscripted slice false (.ref 48) (.str k t) = operate [.ref 48, .str k t] (getItem (.ref 48) (.str k t))) → wpAny (model PySem.Challenge.rw_pf0161_01.row.prog w) A (subscriptTail value slice (.ref 48) (.str k t)) Q E s) ?_ ?_ ?_ ?_ ?_ ?_ ?_ ?_ ?_
  all_goals (intro h hs; k_dflt (refine' topItem_K ?F ?X ?l ?k ?e ?_ hs; (case F => k_asm); (case X => k_asm); (case l => k_is); (case k => k_keys); (case e => k_is)); exact h _)
local macro_rules | `(tactic| walk_at "call ref") => `(tactic| (k_here; (with_reducible show wpAny _ _ (PySem.call (Value.ref 55) _) _ _ _); k_dflt (refine' signed_meets ?zv _ _ _ _ _ _ _ _ _ _ _ _ _ _ _ _ _ ?zB ?zF ?zX ?zN ?zT ?zk ?zd ?zu ?_; (case zB => k_asm); (case zF => k_asm); (case zX => k_asm); (case zN => k_asm); (case zT => k_asm); (case zk => first | exact rfl | assumption); (case zv => assumption); (case zd => ktr_room); (case zu => ktr_units)); rintro _ _ h' tk' ⟨e1', e2'⟩ F' N'; subst e1'; subst e2'; (try dsimp only at N'); (try k_sweep); (try dsimp only); (try k_fold)))
local macro_rules | `(tactic| walk_at "subscriptTail") => `(tactic| (k_here; (with_reducible show wpAny _ _ (subscriptTail _ _ (Value.ref 48) _) _ _ _); k_dflt (refine' bits_item ?zF ?zX ?zv ?_; (case zF => k_asm); (case zX => k_asm); (case zv => assumption)); intro t'))
theorem pred_toNat {n : Nat} (h : n = 8 ∨ n = 16 ∨ n = 32 ∨ n = 64) : ((n : Int) - 1).toNat = n - 1 := by omega
theorem int_toNat (n : Nat) : ((n : Int)).toNat = n := Int.toNat_natCast n
theorem least_meets {w : World} {mean : ExcName → Option Value} {mg mb : Str → Option Value} {news : Led} {k : Str} {tk : Tok} {sg : Bool} {n : Nat} (hv : IsKind k sg n) :
    Meet 4 w mean mg mb 62 news [.str k tk] (fun r news' => news' = news ∧ ∃ tk, r = .int (lowK sg n) tk) := by
  have hb := hv.bits
  unfold Meet
  k_fill
  intro dp un gd cn cs a ccd cl outer A₀ base h₀ L m s Q E B F X N T hk hdp hun hret
  refine wpAny_call ?_
  k_dflt ktr_enter
  k_with_none
  k_steps
  · rename_i hs _ kF kN _ _
    subst hs
    rw [pred_toNat hb]
    exact hret _ _ _ _ ⟨rfl, _, rfl⟩ kF kN
  · rename_i hs kF kN _ _
    subst hs
    exact hret _ _ _ _ ⟨rfl, _, rfl⟩ kF kN
theorem greatest_meets {w : World} {mean : ExcName → Option Value} {mg mb : Str → Option Value} {news : Led} {k : Str} {tk : Tok} {sg : Bool} {n : Nat} (hv : IsKind k sg n) :
    Meet 4 w mean mg mb 69 news [.str k tk] (fun r news' => news' = news ∧ ∃ tk, r = .int (highK sg n) tk) := by
  have hb := hv.bits
  unfold Meet
  k_fill
  intro dp un gd cn cs a ccd cl outer A₀ base h₀ L m s Q E B F X N T hk hdp hun hret
  refine wpAny_call ?_
  k_dflt ktr_enter
  k_with_none
  k_steps
  · rename_i hs _ kF kN _ _
    subst hs
    rw [pred_toNat hb]
    exact hret _ _ _ _ ⟨rfl, _, rfl⟩ kF kN
  · rename_i hs _ kF kN _ _
    subst hs
    rw [int_toNat]
    exact hret _ _ _ _ ⟨rfl, _, rfl⟩ kF kN
theorem lowK_lo {sg : Bool} {n : Nat} (h : n = 8 ∨ n = 16 ∨ n = 32 ∨ n = 64) : -(2 ^ 64) ≤ lowK sg n ∧ lowK sg n ≤ 0 := by
  rcases h with rfl | rfl | rfl | rfl <;> cases sg <;> decide
theorem highK_hi {sg : Bool} {n : Nat} (h : n = 8 ∨ n = 16 ∨ n = 32 ∨ n = 64) : 0 ≤ highK sg n ∧ highK sg n ≤ 2 ^ 64 := by
  rcases h with rfl | rfl | rfl | rfl <;> cases sg <;> decide
local macro_rules | `(tactic| walk_at "call ref") => `(tactic| (k_here; (with_reducible show wpAny _ _ (PySem.call (Value.ref 62) _) _ _ _); k_dflt (refine' least_meets ?zv _ _ _ _ _ _ _ _ _ _ _ _ _ _ _ _ _ ?zB ?zF ?zX ?zN ?zT ?zk ?zd ?zu ?_; (case zB => k_asm); (case zF => k_asm); (case zX => k_asm); (case zN => k_asm); (case zT => k_asm); (case zk => first | exact rfl | assumption); (case zv => assumption); (case zd => ktr_room); (case zu => ktr_units)); rintro _ _ h' tk' ⟨e1', t', e2'⟩ F' N'; subst e1'; subst e2'; (try dsimp only at N'); (try k_sweep); (try dsimp only); (try k_fold)))
local macro_rules | `(tactic| walk_at "call ref") => `(tactic| (k_here; (with_reducible show wpAny _ _ (PySem.call (Value.ref 69) _) _ _ _); k_dflt (refine' greatest_meets ?zv _ _ _ _ _ _ _ _ _ _ _ _ _ _ _ _ _ ?zB ?zF ?zX ?zN ?zT ?zk ?zd ?zu ?_; (case zB => k_asm); (case zF => k_asm); (case zX => k_asm); (case zN => k_asm); (case zT => k_asm); (case zk => first | exact rfl | assumption); (case zv => assumption); (case zd => ktr_room); (case zu => ktr_units)); rintro _ _ h' tk' ⟨e1', t', e2'⟩ F' N'; subst e1'; subst e2'; (try dsimp only at N'); (try k_sweep); (try dsimp only); (try k_fold)))
theorem fits_meets {w : World} {mean : ExcName → Option Value} {mg mb : Str → Option Value} {news : Led} {k : Str} {tk tx : Tok} {sg : Bool} {n : Nat} {x : Int} (hv : IsKind k sg n) :
    Meet 6 w mean mg mb 76 news [.str k tk, .int x tx] (fun r news' => news' = news ∧ r = .bool (decide (lowK sg n ≤ x ∧ x ≤ highK sg n))) := by
  unfold Meet
  k_fill
  intro dp un gd cn cs a ccd cl outer A₀ base h₀ L m s Q E B F X N T hk hdp hun hret
  refine wpAny_call ?_
  k_dflt ktr_enter
  k_with_none
  k_steps
  · rename_i hl _ _ _ _ _ _ kF kN _ _
    exact hret _ _ _ _ ⟨rfl, congrArg Value.bool (decide_eq_decide.mpr ⟨fun h => ⟨hl, h⟩, fun h => h.2⟩)⟩ kF kN
  · rename_i hl kF kN _ _
    exact hret _ _ _ _ ⟨rfl, congrArg Value.bool (decide_eq_decide.mpr ⟨fun h => absurd h hl, fun h => h.1⟩)⟩ kF kN
theorem wrapped_meets {w : World} {mean : ExcName → Option Value} {mg mb : Str → Option Value} {news : Led} {k : Str} {tk tx : Tok} {sg : Bool} {n : Nat} {x : Int} (hv : IsKind k sg n) :
    Meet 6 w mean mg mb 83 news [.str k tk, .int x tx] (fun r news' => news' = news ∧ ∃ tk, r = .int (wrapK sg n x) tk) := by
  have hb := hv.bits
  have hpos : (2 : Int) ^ n ≠ 0 := by rcases hb with h | h | h | h <;> subst h <;> decide
  unfold Meet
  k_fill
  intro dp un gd cn cs a ccd cl outer A₀ base h₀ L m s Q E B F X N T hk hdp hun hret
  refine wpAny_call ?_
  k_dflt ktr_enter
  k_with_none
  k_steps
  · rename_i kF kN _ _
    rw [int_toNat]
    exact hret _ _ _ _ ⟨rfl, _, rfl⟩ kF kN
def headK (sg : Bool) : Str := if sg then Str.ofString "i" else Str.ofString "u"
theorem IsKind.head {k : Str} {sg : Bool} {n : Nat} (h : IsKind k sg n) : Txt.item k 0 = headK sg ∧ 1 ≤ k.length ∧ k.length ≤ 5 :=
  h.cases (P := fun k sg _ => Txt.item k 0 = headK sg ∧ 1 ≤ k.length ∧ k.length ≤ 5) (by decide +kernel) (by decide +kernel) (by decide +kernel) (by decide +kernel) (by decide +kernel) (by decide +kernel) (by decide +kernel) (by decide +kernel) (by decide +kernel)
theorem kind_head {prog : Program} {w : World} {A : Around} {E : Value → Shared → Prop} {s : Shared} {value slice : PySem.Expr} {k : Str} {t u : Tok} {sg : Bool} {n : Nat} {Q : Value → Shared → Prop} (hv : IsKind k sg n)
    (h : Q (.str (headK sg) s.toks) { s with toks := s.toks + 1 })
    (hs : subscripted slice false (.str k t) (.int 0 u) = operate [.str k t, .int 0 u] (getItem (.str k t) (.int 0 u)) := by with_unfolding_all rfl)
    (ht : ∀ r, letTemporaryGo value (.str k t) r = pure () := by intro _; with_unfolding_all rfl) :
    wpAny (model prog w) A (subscriptTail value slice (.str k t) (.int 0 u)) Q E s := by
  obtain ⟨e, h1, h2⟩ := hv.head
  exact KXi.item (x := k) (i := 0) rfl (by omega) (by omega) (by omega) (fun _ => by rw [e]; exact h) hs ht
theorem mulok_p (l w : Int) : IntMulOk (1 * l.fmod 2) w := by
  have h0 := fmod_lo (a := l) (b := 2) (by decide)
  have h1 := fmod_hi (a := l) (b := 2) (by decide)
  exact IntMulOk.of_left (intBits_le_64 (by omega) (by omega))
theorem mulok_m (l w : Int) : IntMulOk (-1 * l.fmod 2) w := by
  have h0 := fmod_lo (a := l) (b := 2) (by decide)
  have h1 := fmod_hi (a := l) (b := 2) (by decide)
  exact IntMulOk.of_left (intBits_le_64 (by omega) (by omega))
theorem led_s {sg : Bool} {n : Nat} {x : Int} (hv : n = 8 ∨ n = 16 ∨ n = 32 ∨ n = 64) : LedInv sg n x ([] : List Int).length 0 1 x := led_start (by omega)
theorem led_f {n : Nat} {x f wo l k : Int} {pre : List Int} (h : LedInv false n x pre.length f wo l) (hlt : pre.length < ((n : Int) - 0).toNat) :
    LedInv false n x (pre ++ [k]).length (f + 1 * l.fmod 2 * wo) (wo + wo) ((l - l.fmod 2).fdiv 2) := by
  rw [List.length_append]
  exact led_next h (by omega) (by simp)
theorem led_t {n : Nat} {x f wo l k : Int} {pre : List Int} (h : LedInv true n x pre.length f wo l) (hlt : pre.length < ((n : Int) - 0).toNat) (hk : k = 0 + (pre.length : Int)) (hc : ¬ k = (n : Int) - 1) :
    LedInv true n x (pre ++ [k]).length (f + 1 * l.fmod 2 * wo) (wo + wo) ((l - l.fmod 2).fdiv 2) := by
  rw [List.length_append]
  exact led_next h (by omega) (by rw [if_neg]; omega)
theorem led_l {n : Nat} {x f wo l k : Int} {pre : List Int} (h : LedInv true n x pre.length f wo l) (hlt : pre.length < ((n : Int) - 0).toNat) (hk : k = 0 + (pre.length : Int)) (hc : k = (n : Int) - 1) :
    LedInv true n x (pre ++ [k]).length (f + -1 * l.fmod 2 * wo) (wo + wo) ((l - l.fmod 2).fdiv 2) := by
  rw [List.length_append]
  exact led_next h (by omega) (by rw [if_pos]; constructor; rfl; omega)
theorem led_e {sg : Bool} {n : Nat} {x f wo l : Int} (h : LedInv sg n x (rangeKs 0 ((n : Int) - 0).toNat).length f wo l) : f = wrapK sg n x := by
  rw [rangeKs_length, Int.sub_zero, int_toNat] at h
  exact led_end h
local macro_rules | `(tactic| walk_at "binaryOp Mult int int") => `(tactic| (k_here; (with_reducible first | refine PyProof.Rows.mul_int ?_ (mulok_p _ _) | refine PyProof.Rows.mul_int ?_ (mulok_m _ _))))
local macro_rules | `(tactic| walk_at "subscriptTail") => `(tactic| (k_here; k_dflt (refine' kind_head ?zv ?_; (case zv => assumption); (try dsimp only [headK]))))
theorem led_meets {w : World} {mean : ExcName → Option Value} {mg mb : Str → Option Value} {news : Led} {k : Str} {tk tx tm : Tok} {sg : Bool} {n : Nat} {x : Int} (hv : IsKind k sg n) :
    Meet 3 w mean mg mb 188 news [.int x tx, .str k tk, .int (n : Int) tm] (fun r news' => news' = news ∧ ∃ tk, r = .int (wrapK sg n x) tk) := by
  have hb := hv.bits
  cases sg
  · unfold Meet
    k_fill
    intro dp un gd cn cs a ccd cl outer A₀ base h₀ L m s Q E B F X N T hk hdp hun hret
    refine wpAny_call ?_
    k_dflt ktr_enter
    k_with_none
    (k_with "pyIter ref" => k_state (fun pre found worth left => LedInv false n x pre.length found worth left) "found" "worth" "left")
    (k_with "state" => first | exact led_s hb | exact led_f (by assumption) (by assumption) | exact led_t (by assumption) (by assumption) (by assumption) (by assumption) | exact led_l (by assumption) (by assumption) (by assumption) (by assumption))
    k_steps
    · (rename LedInv _ _ _ _ _ _ _ => hI)
      have e := led_e hI
      subst e
      exact hret _ _ _ _ ⟨rfl, _, rfl⟩ (by assumption) (cb_drop (by assumption) (fun p hp => List.Mem.tail _ hp))
  · unfold Meet
    k_fill
    intro dp un gd cn cs a ccd cl outer A₀ base h₀ L m s Q E B F X N T hk hdp hun hret
    refine wpAny_call ?_
    k_dflt ktr_enter
    k_with_none
    (k_with "pyIter ref" => k_state (fun pre found worth left => LedInv true n x pre.length found worth left) "found" "worth" "left")
    (k_with "state" => first | exact led_s hb | exact led_f (by assumption) (by assumption) | exact led_t (by assumption) (by assumption) (by assumption) (by assumption) | exact led_l (by assumption) (by assumption) (by assumption) (by assumption))
    k_steps
    · (rename LedInv _ _ _ _ _ _ _ => hI)
      have e := led_e hI
      subst e
      exact hret _ _ _ _ ⟨rfl, _, rfl⟩ (by assumption) (cb_drop (by assumption) (fun p hp => List.Mem.tail _ hp))
abbrev tupO (vs : Array Value) : Obj := { cls := .type "tuple", data := .seq vs }
local macro_rules | `(tactic| walk_at "call ref") => `(tactic| (k_here; (with_reducible show wpAny _ _ (PySem.call (Value.ref 167) _) _ _ _); k_dflt (refine' doubled_meets ?zv _ _ _ _ _ _ _ _ _ _ _ _ _ _ _ _ _ ?zB ?zF ?zX ?zN ?zT ?zk ?zd ?zu ?_; (case zB => k_asm); (case zF => k_asm); (case zX => k_asm); (case zN => k_asm); (case zT => k_asm); (case zk => first | exact rfl | assumption); (case zv => first | decide | omega); (case zd => ktr_room); (case zu => ktr_units)); rintro _ _ h' tk' ⟨e1', t', e2'⟩ F' N'; subst e1'; subst e2'; (try dsimp only at N'); (try k_sweep); (try dsimp only); (try k_fold)))
theorem bounds_meets {w : World} {mean : ExcName → Option Value} {mg mb : Str → Option Value} {news : Led} {k : Str} {tk : Tok} {sg : Bool} {n : Nat} (hv : IsKind k sg n) :
    Meet 5 w mean mg mb 174 news [.str k tk] (fun r news' => ∃ (t : Addr) (t1 t2 t3 : Tok), r = .ref t ∧ news' = (t, tupO #[.int (lowK sg n) t1, .int (highK sg n) t2, .int (n : Int) t3]) :: news ∧ ∀ p ∈ news, p.1 < t) := by
  refine hv.cases (P := fun k sg n => Meet 5 w mean mg mb 174 news [.str k tk] (fun r news' => ∃ (t : Addr) (t1 t2 t3 : Tok), r = .ref t ∧ news' = (t, tupO #[.int (lowK sg n) t1, .int (highK sg n) t2, .int (n : Int) t3]) :: news ∧ ∀ p ∈ news, p.1 < t)) ?_ ?_ ?_ ?_ ?_ ?_ ?_ ?_ ?_
  all_goals (
    unfold Meet
    k_fill
    intro dp un gd cn cs a ccd cl outer A₀ base h₀ L m s Q E B F X N T hk hdp hun hret
    refine wpAny_call ?_
    k_dflt ktr_enter
    k_with_none
    k_steps
    rename_i l1 kF kN _ _
    exact hret _ _ _ _ ⟨_, _, _, _, rfl, rfl, l1⟩ kF kN)
local macro_rules | `(tactic| walk_at "eval Call") => `(tactic| (k_dflt (refine PyProof.Rows.Call_ ?_)))
local macro_rules | `(tactic| k_room) => `(tactic| ktr_room)
inductive IsOpI (a b : Int) : Str → Bool → Prop
  | eq : IsOpI a b (Str.ofString "==") (a == b)
  | ne : IsOpI a b (Str.ofString "!=") (a != b)
  | lt : IsOpI a b (Str.ofString "<") (decide (a < b))
  | le : IsOpI a b (Str.ofString "<=") (decide (a ≤ b))
  | gt : IsOpI a b (Str.ofString ">") (decide (b < a))
  | ge : IsOpI a b (Str.ofString ">=") (decide (b ≤ a))
theorem cmp1I_meets {w : World} {mean : ExcName → Option Value} {mg mb : Str → Option Value} {news : Led} {op : Str} {to ta tb : Tok} {a b : Int} {c : Bool} (hv : IsOpI a b op c) :
    Meet 2 w mean mg mb 139 news [.str op to, .int a ta, .int b tb] (fun r news' => news' = news ∧ r = .bool c) := by
  cases hv
  all_goals (
    unfold Meet
    k_fill
    intro dp un gd cn cs a' ccd cl outer A₀ base h₀ L m s Q E B F X N T hk hdp hun hret
    refine wpAny_call ?_
    k_dflt ktr_enter
    k_with_none
    k_steps
    rename_i kF kN _ _
    exact hret _ _ _ _ ⟨rfl, rfl⟩ kF kN)
abbrev b01 (b : Bool) : Int := if b then 1 else 0
inductive IsOpB (a b : Bool) : Str → Bool → Prop
  | eq : IsOpB a b (Str.ofString "==") (b01 a == b01 b)
  | ne : IsOpB a b (Str.ofString "!=") (b01 a != b01 b)
  | lt : IsOpB a b (Str.ofString "<") (decide (b01 a < b01 b))
  | le : IsOpB a b (Str.ofString "<=") (decide (b01 a ≤ b01 b))
  | gt : IsOpB a b (Str.ofString ">") (decide (b01 b < b01 a))
  | ge : IsOpB a b (Str.ofString ">=") (decide (b01 b ≤ b01 a))
theorem cmp1B_meets {w : World} {mean : ExcName → Option Value} {mg mb : Str → Option Value} {news : Led} {op : Str} {to : Tok} {a b : Bool} {c : Bool} (hv : IsOpB a b op c) :
    Meet 2 w mean mg mb 139 news [.str op to, .bool a, .bool b] (fun r news' => news' = news ∧ r = .bool c) := by
  cases hv
  all_goals (
    unfold Meet
    k_fill
    intro dp un gd cn cs a' ccd cl outer A₀ base h₀ L m s Q E B F X N T hk hdp hun hret
    refine wpAny_call ?_
    k_dflt ktr_enter
    k_with_none
    k_steps
    rename_i kF kN _ _
    exact hret _ _ _ _ ⟨rfl, congrArg Value.bool (by cases a <;> cases b <;> rfl)⟩ kF kN)
abbrev srcL (src : Addr) (x y : Int) (tx ty : Tok) (n : Nat) : Led := [(src, listOf #[.int x tx, .int y ty] n), (218, tabObj #[])]
theorem bne_no {p q : Bool} (e : p = q) (h : (p != q) = true) : False := by subst e; cases p <;> exact Bool.noConfusion h
theorem allObj_mono {k k' : List (Addr × Obj) → Prop} : ∀ {ws : List (Addr × String)}, (∀ its, k its → k' its) → AllObj ws k → AllObj ws k'
  | [], h, x => h _ x
  | _ :: ws, h, x => fun o ho => allObj_mono (ws := ws) (fun its => h _) (x o ho)
section
variable {prog : Program} {w : World} {A : Around} {E : Value → Shared → Prop} {s : Shared} {env : Env} {h₀ : Heap} {target : PySem.Expr} {body : List Stmt} {Q : Flow → Shared → Prop}
/-- a loop over the items of a list: one turn for all of them -/
theorem rest_ind {ws : List (Addr × String)} {keep : Led} {vs : List Value} (Inv : (Str → Option Value) → Led → Prop)
    (turn : ∀ v ∈ vs, ∀ m news, Inv m news → ∀ h tk, Fr h₀ env.locals h m → AllObj ws (fun its => News h₀ env.locals h (its ++ news) →
      wpAny (model prog w) A (assign target env v) (fun _ s₂ => wpAny (model prog w) A (execs body env) (UnrPostW h₀ env.locals { s with heap := h, toks := tk } its (fun m' n' => SubL keep n' ∧ Inv m' n') Q) E s₂) E { s with heap := h, toks := tk }))
    (done : ∀ m news, Inv m news → ∀ h tk, Fr h₀ env.locals h m → News h₀ env.locals h news → Q .next { s with heap := h, toks := tk }) :
    ∀ xs : List Value, (∀ v ∈ xs, v ∈ vs) → ∀ m news, Inv m news → ItemsRest prog w A E h₀ env target body Q s ws keep (xs.map .val) m news
  | [], _, m, news, hI => ItemsRest.zero (done m news hI)
  | x :: xs, hx, m, news, hI => ItemsRest.val fun h tk F => allObj_mono (fun its k N => wpAny_mono (k N) (fun _ s₂ q => wpAny_mono q (fun f s₃ p => by
      cases f with
      | ret v => exact p
      | brk => exact p
      | next =>
        obtain ⟨h', tk', m', news', e, F', N', off, sub, inv⟩ := p
        exact ⟨h', tk', m', news', e, F', N', off, sub, rest_ind Inv turn done xs (fun v hv => hx v (.tail _ hv)) _ _ inv⟩
      | cont =>
        obtain ⟨h', tk', m', news', e, F', N', off, sub, inv⟩ := p
        exact ⟨h', tk', m', news', e, F', N', off, sub, rest_ind Inv turn done xs (fun v hv => hx v (.tail _ hv)) _ _ inv⟩) fun _ _ e => e) fun _ _ e => e) (turn x (hx x (.head _)) m news hI h tk F)
/-- the same where the ledger stands still behind each turn -/
theorem rest_led {I : Addr} {keep led : Led} {vs : List Value} {m₀ : Str → Option Value} (PM : (Str → Option Value) → Prop)
    (turn : ∀ v ∈ vs, ∀ m, PM m → ∀ h tk o, o.cls = .type "list_iterator" → Fr h₀ env.locals h m → News h₀ env.locals h ((I, o) :: led) →
      wpAny (model prog w) A (assign target env v) (fun _ s₂ => wpAny (model prog w) A (execs body env) (UnrPostW h₀ env.locals { s with heap := h, toks := tk } [(I, o)] (fun m' n' => SubL keep n' ∧ (PM m' ∧ n' = led)) Q) E s₂) E { s with heap := h, toks := tk })
    (done : ∀ m, PM m → ∀ h tk, Fr h₀ env.locals h m → News h₀ env.locals h led → Q .next { s with heap := h, toks := tk }) (hm : PM m₀) :
    ItemsRest prog w A E h₀ env target body Q s [(I, "list_iterator")] keep (vs.map .val) m₀ led :=
  rest_ind (fun m news => PM m ∧ news = led) (fun v hv m news hi h tk F => by
      obtain ⟨hp, rfl⟩ := hi
      exact fun o ho N => turn v hv m hp h tk o ho F N) (fun m news hi h tk F N => by
      obtain ⟨hp, rfl⟩ := hi
      exact done m hp h tk F N) vs (fun _ h => h) _ _ ⟨hm, rfl⟩
end
theorem bne_self (c : Bool) (h : (c != c) = true) : False := by cases c <;> exact Bool.noConfusion h
inductive IsDue (a b : Int) : Str → Bool → Prop
  | eq : IsDue a b (Str.ofString "==") (a - b == 0)
  | ne : IsDue a b (Str.ofString "!=") (a - b != 0)
  | lt : IsDue a b (Str.ofString "<") (decide (a - b < 0))
  | le : IsDue a b (Str.ofString "<=") (!decide (0 < a - b))
  | gt : IsDue a b (Str.ofString ">") (decide (0 < a - b))
  | ge : IsDue a b (Str.ofString ">=") (!decide (a - b < 0))
theorem IsDue.op {a b : Int} {op : Str} {c : Bool} (h : IsDue a b op c) : IsOpI a b op c := by
  cases h
  · rw [show (a - b == 0) = (a == b) from by rw [Bool.eq_iff_iff]; simp; omega]; exact .eq
  · rw [show (a - b != 0) = (a != b) from by rw [Bool.eq_iff_iff]; simp; omega]; exact .ne
  · rw [show decide (a - b < 0) = decide (a < b) from by rw [decide_eq_decide]; omega]; exact .lt
  · rw [show (!decide (0 < a - b)) = decide (a ≤ b) from by rw [Bool.eq_iff_iff]; simp]; exact .le
  · rw [show decide (0 < a - b) = decide (b < a) from by rw [decide_eq_decide]; omega]; exact .gt
  · rw [show (!decide (a - b < 0)) = decide (b ≤ a) from by rw [Bool.eq_iff_iff]; simp]; exact .ge
theorem IsDue.opB {a b : Bool} {op : Str} {c : Bool} (h : IsDue (b01 a) (b01 b) op c) : IsOpB a b op c := by
  cases h.op
  · exact .eq
  · exact .ne
  · exact .lt
  · exact .le
  · exact .gt
  · exact .ge
def Halt (P : Prop) : Prop := P
theorem halt {P : Prop} (h : Halt P) : P := h
abbrev duT (op : String) (t : Tok) (c : Bool) : Obj := { cls := .type "tuple", data := .seq #[.str (Str.ofString op) t, .bool c] 0 }
abbrev SignsP (a b : Int) (rows : Led) (r : Value) (news' : Led) : Prop := ∃ (D T1 T2 T3 T4 T5 T6 : Addr) (t1 t2 t3 t4 t5 t6 : Tok), r = .ref D ∧
  news' = (D, listOf #[.ref T1, .ref T2, .ref T3, .ref T4, .ref T5, .ref T6] 0) :: (T1, duT "==" t1 (a - b == 0)) :: (T2, duT "!=" t2 (a - b != 0)) :: (T3, duT "<" t3 (decide (a - b < 0))) :: (T4, duT "<=" t4 (!decide (0 < a - b))) :: (T5, duT ">" t5 (decide (0 < a - b))) :: (T6, duT ">=" t6 (!decide (a - b < 0))) :: rows
theorem signsI {w : World} {mean : ExcName → Option Value} {mg mb : Str → Option Value} {a1 a2 a3 a4 : Addr} {o1 o2 o3 o4 : Obj} {a b : Int} {ta tb : Tok} :
    Meet 2 w mean mg mb 195 [(a1, o1), (a2, o2), (a3, o3), (a4, o4)] [.int a ta, .int b tb] (SignsP a b [(a1, o1), (a2, o2), (a3, o3), (a4, o4)]) := by
  unfold Meet
  k_fill
  intro dp un gd cn cs a' ccd cl outer A₀ base h₀ L m s Q E B F X N T hk hdp hun hret
  refine wpAny_call ?_
  k_dflt ktr_enter
  k_with_none
  k_steps
  rename_i kF kN _ _
  refine' hret _ _ _ _ ⟨_, _, _, _, _, _, _, _, _, _, _, _, _, rfl, rfl⟩ kF (cb_drop kN ?sub)
  case sub => kcj_all
theorem signsB {w : World} {mean : ExcName → Option Value} {mg mb : Str → Option Value} {a1 a2 a3 a4 : Addr} {o1 o2 o3 o4 : Obj} {a b : Bool} {ta tb : Tok} :
    Meet 2 w mean mg mb 195 [(a1, o1), (a2, o2), (a3, o3), (a4, o4)] [.bool a, .bool b] (SignsP (b01 a) (b01 b) [(a1, o1), (a2, o2), (a3, o3), (a4, o4)]) := by
  unfold Meet
  k_fill
  intro dp un gd cn cs a' ccd cl outer A₀ base h₀ L m s Q E B F X N T hk hdp hun hret
  refine wpAny_call ?_
  k_dflt ktr_enter
  k_with_none
  k_steps
  rename_i kF kN _ _
  refine' hret _ _ _ _ ⟨_, _, _, _, _, _, _, _, _, _, _, _, _, rfl, rfl⟩ kF (cb_drop kN ?sub)
  case sub => kcj_all
abbrev CmpC (w : World) (mean : ExcName → Option Value) (mg mb : Str → Option Value) (a b : Int) (va vb : Value) : Prop :=
  ∀ (op : Str) (c : Bool) (to : Tok) (news : Led), IsDue a b op c → Meet 2 w mean mg mb 139 news [.str op to, va, vb] (fun r news' => news' = news ∧ r = .bool c)
local macro_rules | `(tactic| walk_at "call ref") => `(tactic| (k_here; (with_reducible show wpAny _ _ (PySem.call (Value.ref 195) _) _ _ _); have hM := (by assumption : Meet 2 _ _ _ _ 195 _ _ _); k_dflt (refine' hM _ _ _ _ _ _ _ _ _ _ _ _ _ _ _ _ _ ?zB ?zF ?zX ?zN ?zT ?zk ?zd ?zu ?_; (case zB => k_asm); (case zF => k_asm); (case zX => k_asm); (case zN => k_asm); (case zT => k_asm); (case zk => first | exact rfl | assumption); (case zd => ktr_room); (case zu => ktr_units)); rintro _ _ h' tk' ⟨D', T1', T2', T3', T4', T5', T6', t1', t2', t3', t4', t5', t6', e1', e2'⟩ F' N'; subst e1'; subst e2'; (try dsimp only at N'); (try k_sweep); (try dsimp only); (try k_fold)))
local macro_rules | `(tactic| walk_at "call ref") => `(tactic| (k_here; (with_reducible show wpAny _ _ (PySem.call (Value.ref 139) _) _ _ _); have hM := (by assumption : CmpC _ _ _ _ _ _ _ _); k_dflt (refine' (hM _ _ _ _ (by assumption)) _ _ _ _ _ _ _ _ _ _ _ _ _ _ _ _ _ ?zB ?zF ?zX ?zN ?zT ?zk ?zd ?zu ?_; (case zB => k_asm); (case zF => k_asm); (case zX => k_asm); (case zN => k_asm); (case zT => k_asm); (case zk => first | exact rfl | assumption); (case zd => ktr_room); (case zu => ktr_units)); rintro _ _ h' tk' ⟨e1', e2'⟩ F' N'; subst e1'; subst e2'; (try dsimp only at N'); (try k_sweep); (try dsimp only); (try k_fold)))
local macro_rules | `(tactic| walk_at "exec For Tuple Call cons nil") => `(tactic| (k_here; (rename Fr _ _ _ _ => lF'); (with_unfolding_all refine' For_turns lF' ?_; k_whole)))
local macro_rules | `(tactic| walk_at "ItemsRest") => `(tactic| (k_here; refine halt ?_))
local macro_rules | `(tactic| walk_at "eval Name") => `(tactic| (k_here; k_dflt (refine' nameX_L ?nF ?nv ?_ ?na ?nb; (case nF => k_asm); (case na => rfl); (case nb => rfl); (case nv => ((try dsimp only); (iterate 7 (try (refine (if_neg (by decide +kernel)).trans ?_))); assumption)); k_whole)))
theorem cmp_gen {w : World} {mean : ExcName → Option Value} {mg mb : Str → Option Value} {a1 a2 a3 a4 : Addr} {o1 o2 o3 o4 : Obj} {a b : Int} {va vb : Value} (hS : Meet 2 w mean mg mb 195 [(a1, o1), (a2, o2), (a3, o3), (a4, o4)] [va, vb] (SignsP a b [(a1, o1), (a2, o2), (a3, o3), (a4, o4)]))
    (hC : CmpC w mean mg mb a b va vb) :
    Meet 4 w mean mg mb 202 [(a1, o1), (a2, o2), (a3, o3), (a4, o4)] [va, vb] (fun r news' => news' = [(a1, o1), (a2, o2), (a3, o3), (a4, o4)] ∧ r = .bool true) := by
  unfold Meet
  k_fill
  intro dp un gd cn cs a' ccd cl outer A₀ base h₀ L m s Q E B F X N T hk hdp hun hret
  refine wpAny_call ?_
  k_dflt ktr_enter
  k_with_none
  k_steps
  unfold Halt
  refine' rest_led (fun m => m (Str.ofString "a") = some va ∧ m (Str.ofString "b") = some vb) ?turn ?done ?inv
  case inv => exact ⟨rfl, rfl⟩
  case turn =>
    rintro v hv m1 ⟨hma, hmb⟩ h1 tk1 o1' hc1' F1 N1
    have hx : ∃ (T : Addr) (op : Str) (to : Tok) (c : Bool), v = .ref T ∧ IsTup h1 T #[.str op to, .bool c] ∧ IsDue a b op c := by
      simp only [List.mem_cons, List.not_mem_nil, or_false] at hv
      rcases hv with rfl | rfl | rfl | rfl | rfl | rfl
      all_goals refine ⟨_, _, _, _, rfl, News.isTup N1 (by k_mem), ?_⟩
      all_goals first | exact .eq | exact .ne | exact .lt | exact .le | exact .gt | exact .ge
    obtain ⟨T, op, to, c, rfl, hT, hO⟩ := hx
    k_steps
    exact (bne_self _ (by assumption)).elim
  case done =>
    rintro m1 - h1 tk1 F1 N1
    try dsimp only
    k_steps
    rename_i kF kN _ _
    exact hret _ _ _ _ ⟨rfl, rfl⟩ kF (cb_drop kN (by kcj_all))
theorem cmpI_meets {w : World} {mean : ExcName → Option Value} {mg mb : Str → Option Value} {a1 a2 a3 a4 : Addr} {o1 o2 o3 o4 : Obj} {a b : Int} {ta tb : Tok} :
    Meet 4 w mean mg mb 202 [(a1, o1), (a2, o2), (a3, o3), (a4, o4)] [.int a ta, .int b tb] (fun r news' => news' = [(a1, o1), (a2, o2), (a3, o3), (a4, o4)] ∧ r = .bool true) := cmp_gen signsI fun _ _ _ _ h => cmp1I_meets h.op
theorem cmpB_meets {w : World} {mean : ExcName → Option Value} {mg mb : Str → Option Value} {a1 a2 a3 a4 : Addr} {o1 o2 o3 o4 : Obj} {a b : Bool} :
    Meet 4 w mean mg mb 202 [(a1, o1), (a2, o2), (a3, o3), (a4, o4)] [.bool a, .bool b] (fun r news' => news' = [(a1, o1), (a2, o2), (a3, o3), (a4, o4)] ∧ r = .bool true) := cmp_gen (signsB (ta := 0) (tb := 0)) fun _ _ _ _ h => cmp1B_meets h.opB
local macro_rules | `(tactic| walk_at "call ref") => `(tactic| (k_here; (with_reducible show wpAny _ _ (PySem.call (Value.ref 83) _) _ _ _); k_dflt (refine' wrapped_meets ?zv _ _ _ _ _ _ _ _ _ _ _ _ _ _ _ _ _ ?zB ?zF ?zX ?zN ?zT ?zk ?zd ?zu ?_; (case zB => k_asm); (case zF => k_asm); (case zX => k_asm); (case zN => k_asm); (case zT => k_asm); (case zk => first | exact rfl | assumption); (case zv => assumption); (case zd => ktr_room); (case zu => ktr_units)); rintro _ _ h' tk' ⟨e1', t', e2'⟩ F' N'; subst e1'; subst e2'; (try dsimp only at N'); (try k_sweep); (try dsimp only); (try k_fold)))
theorem cast_meets {w : World} {mean : ExcName → Option Value} {mg mb : Str → Option Value} {news : Led} {k : Str} {tk tx : Tok} {sg : Bool} {n : Nat} {x : Int} (hv : IsKind k sg n) :
    Meet 8 w mean mg mb 90 news [.str k tk, .int x tx] (fun r news' => news' = news ∧ ∃ tk, r = .int (wrapK sg n x) tk) := by
  unfold Meet
  k_fill
  intro dp un gd cn cs a ccd cl outer A₀ base h₀ L m s Q E B F X N T hk hdp hun hret
  refine wpAny_call ?_
  k_dflt ktr_enter
  k_with_none
  k_steps
  rename_i kF kN _ _
  exact hret _ _ _ _ ⟨rfl, _, rfl⟩ kF kN
local macro_rules | `(tactic| walk_at "call ref") => `(tactic| (k_here; (with_reducible show wpAny _ _ (PySem.call (Value.ref 76) _) _ _ _); k_dflt (refine' fits_meets ?zv _ _ _ _ _ _ _ _ _ _ _ _ _ _ _ _ _ ?zB ?zF ?zX ?zN ?zT ?zk ?zd ?zu ?_; (case zB => k_asm); (case zF => k_asm); (case zX => k_asm); (case zN => k_asm); (case zT => k_asm); (case zk => first | exact rfl | assumption); (case zv => assumption); (case zd => ktr_room); (case zu => ktr_units)); rintro _ _ h' tk' ⟨e1', e2'⟩ F' N'; subst e1'; subst e2'; (try dsimp only at N'); (try k_sweep); (try dsimp only); (try k_fold)))
local macro_rules | `(tactic| walk_at "call ref") => `(tactic| (k_here; (with_reducible show wpAny _ _ (PySem.call (Value.ref 90) _) _ _ _); k_dflt (refine' cast_meets ?zv _ _ _ _ _ _ _ _ _ _ _ _ _ _ _ _ _ ?zB ?zF ?zX ?zN ?zT ?zk ?zd ?zu ?_; (case zB => k_asm); (case zF => k_asm); (case zX => k_asm); (case zN => k_asm); (case zT => k_asm); (case zk => first | exact rfl | assumption); (case zv => assumption); (case zd => ktr_room); (case zu => ktr_units)); rintro _ _ h' tk' ⟨e1', t', e2'⟩ F' N'; subst e1'; subst e2'; (try dsimp only at N'); (try k_sweep); (try dsimp only); (try k_fold)))
local macro_rules | `(tactic| walk_at "call ref") => `(tactic| (k_here; (with_reducible show wpAny _ _ (PySem.call (Value.ref 174) _) _ _ _); k_dflt (refine' bounds_meets ?zv _ _ _ _ _ _ _ _ _ _ _ _ _ _ _ _ _ ?zB ?zF ?zX ?zN ?zT ?zk ?zd ?zu ?_; (case zB => k_asm); (case zF => k_asm); (case zX => k_asm); (case zN => k_asm); (case zT => k_asm); (case zk => first | exact rfl | assumption); (case zv => assumption); (case zd => ktr_room); (case zu => ktr_units)); rintro _ _ h' tk' ⟨q', t1', t2', t3', e1', e2', l1'⟩ F' N'; subst e1'; subst e2'; (try dsimp only at N'); (try k_sweep); (try dsimp only); (try k_fold); (try k_lt l1')))
local macro_rules | `(tactic| walk_at "call ref") => `(tactic| (k_here; (with_reducible show wpAny _ _ (PySem.call (Value.ref 188) _) _ _ _); k_dflt (refine' led_meets ?zv _ _ _ _ _ _ _ _ _ _ _ _ _ _ _ _ _ ?zB ?zF ?zX ?zN ?zT ?zk ?zd ?zu ?_; (case zB => k_asm); (case zF => k_asm); (case zX => k_asm); (case zN => k_asm); (case zT => k_asm); (case zk => first | exact rfl | assumption); (case zv => assumption); (case zd => ktr_room); (case zu => ktr_units)); rintro _ _ h' tk' ⟨e1', t', e2'⟩ F' N'; subst e1'; subst e2'; (try dsimp only at N'); (try k_sweep); (try dsimp only); (try k_fold)))
theorem kb1 {P R : Prop} [Decidable (P ∧ R)] [Decidable R] (h : (decide (P ∧ R) != decide R) = true) (hp : P) : False := bne_no (by rw [decide_eq_decide]; exact ⟨fun q => q.2, fun q => ⟨hp, q⟩⟩) h
theorem kb2 {P R : Prop} [Decidable (P ∧ R)] [Decidable P] (h : (decide (P ∧ R) != decide P) = true) (hp : ¬P) : False := bne_no (by rw [decide_eq_decide]; exact ⟨fun q => q.1, fun q => absurd q hp⟩) h
theorem kb4 {P R : Prop} [Decidable (P ∧ R)] [Decidable R] (h : ((!decide (P ∧ R)) == !decide R) = false) (hp : P) : False := by
  rw [show decide (P ∧ R) = decide R from by rw [decide_eq_decide]; exact ⟨fun q => q.2, fun q => ⟨hp, q⟩⟩, beq_self_eq_true] at h
  exact Bool.noConfusion h
theorem kb5 {P R : Prop} [Decidable (P ∧ R)] [Decidable P] (h : ((!decide (P ∧ R)) == !decide P) = false) (hp : ¬P) : False := by
  rw [show decide (P ∧ R) = decide P from by rw [decide_eq_decide]; exact ⟨fun q => q.1, fun q => absurd q hp⟩, beq_self_eq_true] at h
  exact Bool.noConfusion h
theorem kb6 {sg : Bool} {n : Nat} {v : Int} : (wrapK sg n (-1 - v) == wrapK sg n (0 - v - 1)) = true := by rw [show (-1 - v : Int) = 0 - v - 1 from by omega, beq_self_eq_true]
theorem ledR_meets {w : World} {mean : ExcName → Option Value} {mg mb : Str → Option Value} {src : Addr} {a b : Int} {ta tb : Tok} {m' : Nat} {k : Str} {tk tx : Tok} {sg : Bool} {n : Nat} {x : Int} (hv : IsKind k sg n) :
    Meet 12 w mean mg mb 209 (srcL src a b ta tb m') [.str k tk, .int x tx] (fun r news' => news' = srcL src a b ta tb m' ∧ r = .bool true) := by
  unfold Meet
  k_fill
  intro dp un gd cn cs a' ccd cl outer A₀ base h₀ L m s Q E B F X N T hk hdp hun hret
  refine wpAny_call ?_
  k_dflt ktr_enter
  k_with_none
  k_steps
  all_goals first
    | exact (kb1 (by assumption) (by assumption)).elim
    | exact (kb2 (by assumption) (by assumption)).elim
    | exact (kb4 (by assumption) (by assumption)).elim
    | exact (kb5 (by assumption) (by assumption)).elim
    | exact absurd rfl (by assumption)
    | (rename_i kF kN _ _
       rw [kb6]
       exact hret _ _ _ _ ⟨rfl, rfl⟩ kF (cb_drop kN (by kcj_all)))
theorem pool_meets {w : World} {mean : ExcName → Option Value} {mg mb : Str → Option Value} {news : Led} {sl : Addr} {vs : List Value} {ns : List Int} {tk0 : Tok} (hns : ns.length ≤ 63) (hI : IntsAre vs ns) :
  ∀ (dp un : Nat) (gd : Option (List Code)) (cn : Str) (cs : Scope) (a : Addr) (ccd : Value) (cl : List (Str × Addr)) (outer : List Env) (A₀ : Around) (base h₀ : Heap) (L : Addr) (m : Str → Option Value) (s : Shared) (Q E : Value → Shared → Prop),
    Below A₀ base outer h₀ → Fr h₀ L s.heap m → (hd.heap_39 w.params).In h₀ → News h₀ L s.heap news → Top topProg lo0 mean mg mb h₀ → cs.kind = .function → dp + 2 < recursionLimit → un + 8 * 2 < cLine → base.IsList sl vs.toArray →
    (∀ (r : Value) (news' : Led) (h' : Heap) (tk' : Nat), (∃ (l : Addr) (x y : Int) (tx ty : Tok), r = .ref l ∧ news' = (l, listOf #[.int x tx, .int y ty] 0) :: news ∧ 0 ≤ y ∧ y < 2147483647 ∧ ∀ p ∈ news, p.1 < l) → Fr h₀ L h' m → News h₀ L h' news' → Q r { s with heap := h', toks := tk' }) →
    wpAny (model PySem.Challenge.rw_pf0161_01.row.prog w) (ktrTop dp un gd cn cs L a ccd cl outer) (call (.ref 146) [.ref sl, .int 0 tk0]) Q E s := by
  k_fill
  intro dp un gd cn cs a ccd cl outer A₀ base h₀ L m s Q E B F X N T hk hdp hun hl hret
  refine wpAny_call ?_
  k_dflt ktr_enter
  (rename Below _ _ _ _ => B2)
  k_lift B2
  k_with_none
  k_steps
  all_goals exact hret _ _ _ _ ⟨_, _, _, _, _, rfl, rfl, fmod_lo (by decide), fmod_hi (by decide), (by assumption)⟩ (by assumption) (by assumption)
abbrev bm45 : List Value := [.ref 32, .type "Exception", .type "BaseException", .type "object"]
section
variable {A : Around} {E : Value → Shared → Prop} {h : Heap} {g : Array GenState} {d : Drawn} {t : Nat} {os : OsState} {prog : Program} {w : World}
variable {nm q : Str} {N : Addr} {bs : List Value} {hdct : Bool} {sn : List Str} {sub : List Value} {ab : Bool} {col : Option Bool} {dd : Option Addr} {k0 k1 k2 k3 k5 : Option Value}
theorem has45 {x : String} (hx : x = "Exception" ∨ x = "BaseException") : (Value.ref 45 :: bm45).contains (.type x) = true := by rcases hx with rfl | rfl <;> rfl
theorem hasNot45 {x : String} (hx : x = "AttributeError" ∨ x = "NameError") : (Value.ref 45 :: bm45).contains (.type x) = false := by rcases hx with rfl | rfl <;> rfl
theorem check_new45 {M : Model} {rest : List Value} {Q : Unit → Shared → Prop} (hC : h.get? 45 = some (excClassObj nm q 45 N bs bm45 hdct sn sub ab col dd k0 k1 k2 k3 k5 "Exception.__new__")) (hq : Q () ⟨h, g, d, t, os⟩) :
    wpAny M A (checkBuiltinCall "Exception.__new__" ⟨.ref 45 :: rest, []⟩) Q E ⟨h, g, d, t, os⟩ := by
  have F := PySem.F.excBase_Exception
  have hcont := has45 (x := "Exception") (.inl rfl)
  have hstar := F.noStar
  simp only [checkBuiltinCall, F.newKind, F.newSplit, F.newRow]
  repeat (first | refine wpAny_loadPart_at hC ?_ | (refine wpAny_isSubtype_exc hC ?_; rw [hcont]) | refine wpAny_staticBase_exc hC ?_ | refine wpAny_madeBy_exc hC ?_ | simp only [bne_self_eq_false, Bool.false_eq_true, if_false] | wp_step)
  exact hq
theorem new45 {rest : List Value} {R : Result → Shared → Prop} (hC : h.get? 45 = some (excClassObj nm q 45 N bs bm45 hdct sn sub ab col dd k0 k1 k2 k3 k5 "Exception.__new__"))
    (hq : R (.ok (.ret (.ref (h.objs.size + 1)))) ⟨(h.push { cls := .type "tuple", data := .seq rest.toArray }).push
      { cls := .ref 45, data := .fields #[.ref h.objs.size, .none, .none, .none, .bool false, .none] }, g, d, t, os⟩) (hrest : rest.length ≤ sizeLine := by size_fits) :
    codeAny (model prog w) A (.builtin "Exception.__new__" ⟨.ref 45 :: rest, []⟩) R ⟨h, g, d, t, os⟩ := by
  have F := PySem.F.excBase_Exception
  have hends := F.ends
  have hcB := has45 (x := "Exception") (.inl rfl)
  have hcA := hasNot45 (x := "AttributeError") (.inl rfl)
  have hcN := hasNot45 (x := "NameError") (.inr rfl)
  refine codeAny_builtinAt F.entry ?_
  unfold Builtin.«BaseException.__new__»
  refine PySem.wpAt_bind ?_
  show PySem.wpAt _ _ _ (stack >>= _) _ _ _
  refine PySem.wpAt_bind (PySem.wpAt_stack fun p below => PySem.wpAt_of_wpAny ?_)
  wp_walk
  refine PySem.wpAt_of_wpAny ?_
  rw [F.owner]
  repeat (first | with_reducible refine wpAny_madeHere_exc F.canon hC ?_ | with_reducible refine wpAny_loadPart_at hC ?_ | (with_reducible refine wpAny_isSubtype_exc hC ?_; first | rw [hcB] | rw [hcA] | rw [hcN]) | wp_step)
  show R _ _
  rw [Heap.size_push]
  exact hq
abbrev exc0 (t : Addr) : Obj := { cls := .ref 45, data := .fields #[.ref t, .none, .none, .none, .bool false, .none] }
theorem typecall45 {K : Frag} {msg : Value} {Q : Fin → Shared → Prop} (X : K.In h)
    (hC : h.get? 45 = some (excClassObj nm q 45 N bs bm45 hdct sn sub ab col dd k0 k1 k2 k3 k5 "Exception.__new__"))
    (hf : findIn K (.ref 45) "__init__" = some (some (.ref 29))) (ht : typeIn K (.ref 29) = some (.type "function"))
    (hq : wpAny (model prog w) A (call (.ref 29) [.ref (h.objs.size + 1), msg]) (fun r s' => r = .none ∧ Q (.done (.ret (.ref (h.objs.size + 1)))) s') E ⟨(h.push { cls := .type "tuple", data := .seq [msg].toArray }).push (exc0 h.objs.size), g, d, t, os⟩) :
    wpAny (model prog w) A (Builtin.«type.__call__» ⟨[.ref 45, msg], []⟩) Q E ⟨h, g, d, t, os⟩ := by
  have F := PySem.F.excBase_Exception
  repeat (first | with_reducible refine wpAny_loadPart_at hC ?_ | with_reducible refine wpAny_madeBy_exc hC ?_ | wp_step)
  refine codeAny_call_builtin_code (Code.quiet_builtin _ F.quiet) (check_new45 hC ?_)
  refine new45 hC ?_
  show wpAny _ _ _ _ _ _
  have hk : ∀ b o, h.get? b = some o → ((h.push { cls := .type "tuple", data := .seq [msg].toArray }).push (exc0 h.objs.size)).get? b = some o := fun b o hb => Heap.get?_push_of_some _ (Heap.get?_push_of_some _ hb)
  have hC₁ := hk _ _ hC
  have hget : ((h.push { cls := .type "tuple", data := .seq [msg].toArray }).push (exc0 h.objs.size)).get? (h.objs.size + 1) = some (exc0 h.objs.size) := by heap_get
  have hcC : (Value.ref 45 :: bm45).contains (.ref 45) = true := by rfl
  unfold isInstance
  repeat (first | with_reducible refine wpAny_loadPart_at hget ?_ | (with_reducible refine wpAny_isSubtype_exc hC₁ ?_; rw [hcC]) | wp_step)
  show wpAny _ _ (typeLookup (.ref 45) _) _ _ _
  refine (looks_findIn (X.keeps hk) hf).here ?_
  refine wpAny_holding (wpAny_bind ?_)
  refine (bind_fn (X.keeps hk) _ ht).here ?_
  refine wpAny_bind (wpAny_mono hq (fun r s' hr => ?_) fun _ _ x => x)
  obtain ⟨rfl, hQ⟩ := hr
  wp_walk
  exact hQ
theorem call45 {K : Frag} {msg : Value} {Q : Value → Shared → Prop} (X : K.In h)
    (hC : h.get? 45 = some (excClassObj nm q 45 N bs bm45 hdct sn sub ab col dd k0 k1 k2 k3 k5 "Exception.__new__"))
    (hf : findIn K (.ref 45) "__init__" = some (some (.ref 29))) (ht : typeIn K (.ref 29) = some (.type "function"))
    (hq : wpAny (model prog w) (A.under (.builtin "type.__call__" ⟨[.ref 45, msg], []⟩)) (call (.ref 29) [.ref (h.objs.size + 1), msg]) (fun r s' => r = .none ∧ Q (.ref (h.objs.size + 1)) s') E ⟨(h.push { cls := .type "tuple", data := .seq [msg].toArray }).push (exc0 h.objs.size), g, d, t, os⟩) :
    wpAny (model prog w) A (call (.ref 45) [msg]) Q E ⟨h, g, d, t, os⟩ := by
  have f1 := tc_lookup
  have f2 := tc_bind (.ref 45)
  have hT : (⟨h, g, d, t, os⟩ : Shared).TypeIs (.ref 45) "type" := ⟨_, hC, rfl⟩
  refine wpAny_call (codeAny_of_tree ?_)
  show wpAny _ _ (callAny (.ref 45) _) _ _ _
  repeat (any_goals (first | assumption | with_reducible refine wpAny_loadPart_at hC ?_ | wp_step))
  refine ⟨rfl, ?_⟩
  exact codeAny_call_builtin_at (Code.quiet_builtin _ (by decide +kernel)) entry_typeCall (wpAny_check_type_call_sub hC (typecall45 X hC hf ht hq))
end
theorem callTF {w : World} {A : Around} {E : Value → Shared → Prop} {s : Shared} {h₀ : Heap} {L : Addr} {m : Str → Option Value} {news : Led} {msg : Value} {Q : Value → Shared → Prop} (F : Fr h₀ L s.heap m) (N : News h₀ L s.heap news) :
    (hd.heap_39 w.params).In h₀ → (∀ e t h', Fr h₀ L h' m → News h₀ L h' ((e, exc0 t) :: (t, tupO #[msg]) :: news) → (∀ p ∈ news, p.1 < t) → @LT.lt Nat instLTNat t e → (∀ p ∈ news, p.1 ≠ e) →
      codeAny (model PySem.Challenge.rw_pf0161_01.row.prog w) (A.under (.builtin "type.__call__" ⟨[.ref 45, msg], []⟩)) (.call (.ref 29) ⟨[.ref e, msg], []⟩) (InitBack e fun r s' => match r with | .ok (.ret v) => Q v s' | .ok _ => False | .error e => E e s') { s with heap := h' }) →
    wpAny (model PySem.Challenge.rw_pf0161_01.row.prog w) A (call (.ref 45) [msg]) Q E s := by
  k_fill
  intro X₀ hq
  obtain ⟨h, g, d, t, os⟩ := s
  have X := X₀.keeps F.keep
  have hC := X 45 _ (by k_is)
  have N1 := (N.push F { cls := .type "tuple", data := .seq [msg].toArray }).push (F.push _) (exc0 h.objs.size)
  rw [Heap.size_push] at N1
  refine call45 X hC (by k_is) (by k_is) (wpAny_call (codeAny_mono (hq _ h.objs.size _ ((F.push _).push _) N1 (fun p hp => Heap.lt_size (N p hp).1) (Nat.lt_succ_self _) (fun p hp => Nat.ne_of_lt (Nat.lt_succ_of_lt (Heap.lt_size (N p hp).1)))) fun r s' z => ?_))
  rcases r with e | (v | _ | _ | _)
  · exact z
  all_goals exact z
local macro_rules | `(tactic| walk_at "call ref") => `(tactic| (k_here; (with_reducible show wpAny _ _ (PySem.call (Value.ref 45) _) _ _ _); k_dflt (refine' callTF ?zF ?zN ?zX ?_; (case zF => k_asm); (case zN => k_asm); (case zX => k_asm)); intro e' t' h' F' N' l1 l2 l3; (try k_lt l1); (try k_sweep); k_enter))
local macro_rules | `(tactic| walk_at "getMethod type:Exception") => `(tactic| (k_here; k_dflt (refine' method_type ?zF ?zX ?zm (by decide +kernel) ?ze ?zh ?_; (case zF => k_asm); (case zX => k_asm); (case zm => kernel_rfl); (case ze => k_dflt k_is); (case zh => k_handed))))
section
variable {A : Around} {E : Value → Shared → Prop} {h : Heap} {g : Array GenState} {d : Drawn} {t : Nat} {os : OsState} {prog : Program} {w : World}
variable {nm q : Str} {N : Addr} {bs : List Value} {hdct : Bool} {sn : List Str} {sub : List Value} {ab : Bool} {col : Option Bool} {dd : Option Addr} {k0 k1 k2 k3 k5 : Option Value}
theorem check_init45 {M : Model} {e : Addr} {oe : Obj} {rest : List Value} {Q : Unit → Shared → Prop} (hC : h.get? 45 = some (excClassObj nm q 45 N bs bm45 hdct sn sub ab col dd k0 k1 k2 k3 k5 "Exception.__new__"))
    (he : h.get? e = some oe) (hcls : oe.cls = .ref 45) (hq : Q () ⟨h, g, d, t, os⟩) : wpAny M A (checkBuiltinCall "Exception.__init__" ⟨.ref e :: rest, []⟩) Q E ⟨h, g, d, t, os⟩ := by
  have F := PySem.F.excBase_Exception
  have hcB := has45 (x := "Exception") (.inl rfl)
  have hshort := F.noStar
  simp only [checkBuiltinCall, F.initKind, F.initSplit, F.initRow]
  repeat (first | (with_reducible refine wpAny_loadPart_at he ?_; rw [hcls]) | with_reducible refine wpAny_loadPart_at hC ?_ | (with_reducible refine wpAny_isSubtype_exc hC ?_; rw [hcB]) | wp_step)
  refine wpAny_onRaise ?_
  rw [show ∀ (a b : String) (n : Nat), Bind.check ⟨.positional, "*", "Exception", .self, [⟨"args", .varPos, false⟩]⟩ a b n (List.map (fun x => x.fst) ({ pos := Value.ref e :: rest } : Args).kw) = pure () from
    fun a b n => check_star_args _ _ _ _ _ _]
  exact wpAny_pure hq
theorem init45 {e t₀ : Addr} {msg : Value} {Q : Value → Shared → Prop} (hC : h.get? 45 = some (excClassObj nm q 45 N bs bm45 hdct sn sub ab col dd k0 k1 k2 k3 k5 "Exception.__new__"))
    (he : h.get? e = some (exc0 t₀)) (hq : Q .none ⟨(h.push { cls := .type "tuple", data := .seq [msg].toArray }).update e (Obj.mapFields (·.setIfInBounds 0 (.ref h.objs.size))), g, d, t, os⟩) :
    wpAny (model prog w) A (call (.builtin "Exception.__init__") [.ref e, msg]) Q E ⟨h, g, d, t, os⟩ := by
  have F := PySem.F.excBase_Exception
  refine wpAny_call (codeAny_call_builtin F.init.plain F.initEntry (check_init45 hC he rfl ?_))
  wp_walk
  trace_state
  exact hq
end
theorem excInit_K {w : World} {A : Around} {E : Value → Shared → Prop} {s : Shared} {h₀ : Heap} {L e t₀ : Addr} {m : Str → Option Value} {news : Led} {u : Obj → Led} {msg : Value} {Q : Value → Shared → Prop} (F : Fr h₀ L s.heap m) (N : News h₀ L s.heap news) (U : UpdF e (exc0 t₀) news u) :
    (hd.heap_39 w.params).In h₀ → (∀ t2 h', Fr h₀ L h' m → News h₀ L h' ((t2, tupO #[msg]) :: u (exc0 t2)) → (∀ p ∈ news, p.1 < t2) → Q .none { s with heap := h' }) →
    wpAny (model PySem.Challenge.rw_pf0161_01.row.prog w) A (call (.builtin "Exception.__init__") [.ref e, msg]) Q E s := by
  k_fill
  intro X₀ hq
  obtain ⟨h, g, d, t, os⟩ := s
  obtain ⟨pre, post, rfl, hu, h1, h2⟩ := U.split
  have X := X₀.keeps F.keep
  have hC := X 45 _ (by k_is)
  have he := (N (e, exc0 t₀) (List.mem_append.mpr (.inr (.head _)))).1
  have N1 := N.push F { cls := .type "tuple", data := .seq [msg].toArray }
  have hlt : ∀ p ∈ pre ++ (e, exc0 t₀) :: post, p.1 < h.objs.size := fun p hp => Heap.lt_size (N p hp).1
  refine init45 hC he ?_
  obtain ⟨U1, U2⟩ := news_upd (pre := (h.objs.size, tupO #[msg]) :: pre) (f := Obj.mapFields (·.setIfInBounds 0 (.ref h.objs.size))) (F.push _) N1 (fun p hp => by
    rcases List.mem_cons.mp hp with rfl | hp
    · exact (Nat.ne_of_gt (hlt (e, exc0 t₀) (List.mem_append.mpr (.inr (.head _)))))
    · exact h1 p hp) h2 rfl rfl
  exact hq _ _ U1 (by rw [hu]; exact U2) hlt
open PySem.Builtin PySem.Builtin.ObjectAttr
abbrev excD (t dx : Addr) : Obj := { cls := .ref 45, dict := some dx, data := .fields #[.ref t, .none, .none, .none, .bool false, .none] }
theorem set45_open {K : Frag} {prog : Program} {w : World} {A : Around} {E : Value → Shared → Prop} {s : Shared} {e : Addr} {oe : Obj} {od : Option Obj} {cd : ClassData} {name : Str} {v : Value} {Q : Unit → Shared → Prop} (X : K.In s.heap) (I : InstAt s.heap e oe 45 od)
    (hs : findIn K (.ref 45) "__setattr__" = some (some (.builtin "object.__setattr__"))) (hc : clsIn K 45 = some cd) (hm : cd.mro = .ref 45 :: bm45) (hf : findIn K (.ref 45) name = some none)
    (hq : ∀ A', wpAny (model prog w) A' (storeInOwnDict (.ref e) (.ref 45) (.str name s.toks) name v false)
      (fun fin s' => match fin with | .done (.ret _) => Q () s' | _ => False) E { s with toks := s.toks + 1 }) :
    wpAny (model prog w) A (setAttr (.ref e) name v) Q E s := by
  have SF := PySem.F.store_object
  have SE := PySem.F.store_Exception
  have hk : mroIn K 45 (.type "object") = some true := by unfold mroIn; rw [hc, Option.bind_some, hm]; rfl
  have sub : Looks (model prog w) s.heap (isInstance (.ref e) (.type "object")) true := I.type.andThen (looks_mroIn X hk)
  have hmro : Looks (model prog w) s.heap (mroOf (.ref 45)) (.ref 45 :: bm45) := by rw [← hm]; exact (looks_clsIn X hc).andThen .now
  refine set_plain X I hs (codeAny_call_builtin SF.slot.plain SF.entry (@check_slot (model prog w) _ _ { s with toks := s.toks + 1 } "object.__setattr__" "object" "__setattr__" (.ref e) [.str name s.toks, v] [] _ SF.kind SF.split sub (SF.args (.ref e) (.str name s.toks) v) ?_))
  rw [osa_eq, refuse_eq]
  refine wpAny_bind (wpAny_bind (I.type _ _ _ _ (fun _ _ q => q) (wpAny_bind (hmro _ _ _ _ (fun _ _ q => q) ?_))))
  rw [refuseLoop_ref, refuseLoop_ref, SE.passes]
  refine wpAny_pure (wpAny_bind (I.type _ _ _ _ (fun _ _ q => q) (wpAny_bind (looks_findIn X hf _ _ _ _ (fun _ _ q => q) (wpAny_bind (wpAny_pure (a := none) ?_))))))
  refine wpAny_mono (hq _) (fun fin s' z => ?_) fun _ _ z => z
  rcases fin with (f | c)
  · cases f <;> first | exact z | exact z.elim
  · exact z.elim
theorem set45_first {K : Frag} {prog : Program} {w : World} {A : Around} {E : Value → Shared → Prop} {s : Shared} {h₀ : Heap} {L e t₀ : Addr} {m : Str → Option Value} {news : Led} {u : Obj → Led} {cd : ClassData} {name : Str} {v : Value} {Q : Unit → Shared → Prop}
    (F : Fr h₀ L s.heap m) (X₀ : K.In h₀) (N : News h₀ L s.heap news) (U : UpdF e (exc0 t₀) news u)
    (hs : findIn K (.ref 45) "__setattr__" = some (some (.builtin "object.__setattr__"))) (hc : clsIn K 45 = some cd) (hm : cd.mro = .ref 45 :: bm45) (hd : cd.hasDict = true) (hf : findIn K (.ref 45) name = some none)
    (hq : ∀ dx od h' tk', Fr h₀ L h' m → News h₀ L h' ((dx, od) :: u (excD t₀ dx)) → (∀ p ∈ news, p.1 < dx) → (∀ p ∈ news, p.1 ≠ dx) → h'.Ns1 dx (fun y => if y = name then some v else none) → Q () { s with heap := h', toks := tk' }) :
    wpAny (model prog w) A (setAttr (.ref e) name v) Q E s := by
  obtain ⟨h, g, d, t, os⟩ := s
  obtain ⟨pre, post, rfl, hu, h1, h2⟩ := U.split
  have X := X₀.keeps F.keep
  have hx := (N (e, exc0 t₀) (List.mem_append.mpr (.inr (.head _)))).1
  have hlt : ∀ p ∈ pre ++ (e, exc0 t₀) :: post, p.1 < h.objs.size := fun p hp => Heap.lt_size (N p hp).1
  have hex : e ≠ h.objs.size := Nat.ne_of_lt (Heap.lt_size hx)
  refine set45_open X (od := none) ⟨hx, rfl, rfl, trivial⟩ hs hc hm hf fun A' => ?_
  refine wpAny_bind (wpAny_pure (wpAny_bind (wpAny_bind (wpAny_loadPart hx (wpAny_bind ((looks_clsIn X hc) _ _ _ _ (fun _ _ q => q) ?_))))))
  rw [hd]
  refine wpAny_bind (wpAny_alloc' ?_)
  have N1 := N.push F { cls := .type "dict", data := .dict #[] }
  have hx₁ : (h.push { cls := .type "dict", data := .dict #[] }).get? e = some (exc0 t₀) := Heap.get?_push_of_some _ hx
  refine wpAny_bind (wpAny_update' hx₁ ?_)
  obtain ⟨U1, U2⟩ := news_upd (pre := (h.objs.size, ({ cls := .type "dict", data := .dict #[] } : Obj)) :: pre) (f := fun o => { o with dict := some h.objs.size }) (o' := excD t₀ h.objs.size) (F.push _) N1 (fun p hp => by
    rcases List.mem_cons.mp hp with rfl | hp
    · exact Ne.symm hex
    · exact h1 p hp) h2 rfl rfl
  refine wpAny_pure (a := some h.objs.size) ?_
  have D := U2 (h.objs.size, { cls := .type "dict", data := .dict #[] }) (.head _)
  refine wpAny_mono (Q := fun fin s' => match fin with | .done (.ret _) => Q () s' | _ => False) ?_ (fun _ _ z => z) (fun _ _ z => z)
  show wpAny _ _ (storeInDict h.objs.size (.str name t) name v) _ _ _
  unfold storeInDict newKeyGuard
  refine wpAny_bind (wpAny_pure (wpAny_bind (wpAny_nsSet1 (Heap.Ns1.of_empty ⟨_, #[], _, D.1, rfl, fun e he => absurd he (by simp), fun _ => rfl⟩) fun h' hn' hs' => ?_)))
  obtain ⟨oD, esD, epD, hoD, hdD, hcD⟩ := hn'.count (Within.cons name v Within.nil)
  refine wpAny_bind (wpAny_lookBehind hoD (by rw [hdD]; exact pastItsLine_dict (Nat.le_trans hcD (by rw [List.length_cons, List.length_nil, sizeLine_eq]; omega))) ?_)
  refine wpAny_pure ?_
  refine hq h.objs.size oD h' _ (U1.change hs' D.2.1 D.2.2) ?_ hlt (fun p hp => Nat.ne_of_lt (hlt p hp)) hn'
  rw [hu]
  refine news_set (pre := []) (o := ({ cls := .type "dict", data := .dict #[] } : Obj)) U2 (fun _ hp => nomatch hp) (fun p hp => ?_) hs' hoD
  rcases List.mem_append.mp hp with hp | hp
  · exact Nat.ne_of_lt (hlt p (List.mem_append.mpr (.inl hp)))
  · rcases List.mem_cons.mp hp with rfl | hp
    · exact hex
    · exact Nat.ne_of_lt (hlt p (List.mem_append.mpr (.inr (.tail _ hp))))
theorem set45_next {K : Frag} {prog : Program} {w : World} {A : Around} {E : Value → Shared → Prop} {s : Shared} {h₀ : Heap} {L e t₀ dx : Addr} {m : Str → Option Value} {news : Led} {u : Obj → Led} {cd : ClassData} {name name₀ : Str} {v v₀ : Value} {od : Obj} {Q : Unit → Shared → Prop}
    (F : Fr h₀ L s.heap m) (X₀ : K.In h₀) (N : News h₀ L s.heap news) (hn : s.heap.Ns1 dx (fun y => if y = name₀ then some v₀ else none)) (U : UpdF dx od news u) (he : (e, excD t₀ dx) ∈ news)
    (hs : findIn K (.ref 45) "__setattr__" = some (some (.builtin "object.__setattr__"))) (hc : clsIn K 45 = some cd) (hm : cd.mro = .ref 45 :: bm45) (hd : cd.hasDict = true) (hf : findIn K (.ref 45) name = some none)
    (hq : ∀ od' h' tk', Fr h₀ L h' m → News h₀ L h' (u od') → Q () { s with heap := h', toks := tk' }) :
    wpAny (model prog w) A (setAttr (.ref e) name v) Q E s := by
  obtain ⟨h, g, d, t, os⟩ := s
  obtain ⟨pre, post, rfl, hu, h1, h2⟩ := U.split
  have X := X₀.keeps F.keep
  have hx := (N _ he).1
  have D := N (dx, od) (List.mem_append.mpr (.inr (.head _)))
  refine set45_open X (od := some od) ⟨hx, rfl, rfl, D.1⟩ hs hc hm hf fun A' => ?_
  refine wpAny_bind (wpAny_pure (wpAny_bind (wpAny_bind (wpAny_loadPart hx (wpAny_bind ((looks_clsIn X hc) _ _ _ _ (fun _ _ q => q) ?_))))))
  rw [hd]
  refine wpAny_pure (a := some dx) ?_
  refine wpAny_mono (Q := fun fin s' => match fin with | .done (.ret _) => Q () s' | _ => False) ?_ (fun _ _ z => z) (fun _ _ z => z)
  show wpAny _ _ (storeInDict dx (.str name t) name v) _ _ _
  unfold storeInDict newKeyGuard
  refine wpAny_bind (wpAny_pure (wpAny_bind (wpAny_nsSet1 hn fun h' hn' hs' => ?_)))
  obtain ⟨oD, esD, epD, hoD, hdD, hcD⟩ := hn'.count (Within.cons name v (Within.cons name₀ v₀ Within.nil))
  refine wpAny_bind (wpAny_lookBehind hoD (by rw [hdD]; exact pastItsLine_dict (Nat.le_trans hcD (by rw [List.length_cons, List.length_cons, List.length_nil, sizeLine_eq]; omega))) ?_)
  refine wpAny_pure ?_
  refine hq oD h' _ (F.change hs' D.2.1 D.2.2) ?_
  rw [hu]
  exact news_set N h1 h2 hs' hoD
def Raised45 (E : Value → Shared → Prop) (v : Value) (s₁ : Shared) : Prop :=
  ∃ (e t dx : Addr) (nm q : Str) (N : Addr) (bs : List Value) (hdct : Bool) (sn : List Str) (sub : List Value) (ab : Bool) (col : Option Bool) (dd : Option Addr) (k0 k1 k2 k3 k5 : Option Value), v = .ref e ∧
    s₁.heap.get? 45 = some (excClassObj nm q 45 N bs bm45 hdct sn sub ab col dd k0 k1 k2 k3 k5 "Exception.__new__") ∧ s₁.heap.get? e = some (excD t dx) ∧ E (.ref e) s₁
theorem raise45 {M : Model} {A : Around} {E : Value → Shared → Prop} {s : Shared} {env : Env} {e : PySem.Expr} {pos : Pos} {Q : Flow → Shared → Prop} (hh : A.handled = none)
    (h : wpAny M A (eval e env) (Raised45 E) E s) : wpAny M A (exec (.Raise (some e) none pos) env) Q E s := by
  show wpAny M A (do standAt pos; raiseStmt env (some (do let v ← eval e env; standAt pos; pure v)) none) Q E s
  refine wpAny_bind (wpAny_standAt ?_)
  unfold raiseStmt
  dsimp only
  refine wpAny_bind (wpAny_bind (wpAny_mono h (fun v s₁ h₁ => wpAny_bind (wpAny_standAt (wpAny_pure ?_))) fun _ _ x => x))
  obtain ⟨e, t, dx, nm, q, N, bs, hdct, sn, sub, ab, col, dd, k0, k1, k2, k3, k5, rfl, hC, he, hE⟩ := h₁
  have hcB := has45 (x := "BaseException") (.inr rfl)
  obtain ⟨hp, g, d, tk, os⟩ := s₁
  repeat (first | with_reducible refine wpAny_loadPart_at he ?_ | with_reducible refine wpAny_loadPart_at hC ?_ | (with_reducible refine wpAny_isSubtype_exc hC ?_; rw [hcB]) | wp_step)
  exact wpAny_raiseNew_none hh hE
theorem leave45 {M : Model} {A : Around} {E : Value → Shared → Prop} {s' : Shared} {base g : Heap} {outer : List Env} {L a e t dx : Addr} {m : Str → Option Value} {name : Str} {scope : Scope} {cd : Value} {Q : Unit → Shared → Prop} {news news' : Led}
    (K : Below A base outer g) (F : Fr g L s'.heap m) (N : News g L s'.heap news) (he : (e, excD t dx) ∈ news) (hsub : ∀ p ∈ news', p ∈ news ∧ p.1 ≠ e)
    (hQ : ∀ h', RaisedSN base g outer e (.ref 45) news' h' → g.UpToSlots h' → Q () { s' with heap := h' }) (hk : scope.kind = .function := by rfl) :
    wpAny M (A.deeper (envOf name scope L a cd)) (leaving (envOf name scope L a cd) (.ref e)) Q E s' := by
  have K' := K.push (name := name) (a := a) (cd := cd) F hk
  obtain ⟨he1, heL, heg⟩ := N _ he
  have heb : base.get? e = none := fresh_of_stays K.stays heg
  have hin : ∀ env ∈ (envOf name scope L a cd :: outer), ∀ b, env.frame = some b → b ∈ e :: (envOf name scope L a cd :: outer).filterMap (·.frame) := fun env h1 b hb => .tail _ (List.mem_filterMap.mpr ⟨env, h1, hb⟩)
  have st : base.StaysIn (hideAll s'.heap (e :: (envOf name scope L a cd :: outer).filterMap (·.frame))) := fun b o q => hideAll_get _ (K'.stays b o q) fun hm => by
    rcases List.mem_cons.mp hm with rfl | hm
    · rw [heb] at q; cases q
    · rw [(K'.frames.mem hm).1] at q; cases q
  have sg : ∀ b o, g.get? b = some o → b ∉ outer.filterMap (·.frame) → (hideAll s'.heap (e :: (envOf name scope L a cd :: outer).filterMap (·.frame))).get? b = some o := fun b o q nm => hideAll_get _ (F.keep b o q) fun hm => by
    rcases List.mem_cons.mp hm with rfl | hm
    · rw [heg] at q; cases q
    · rcases kts_mem hm with z | z
      · rw [z, kts_self F] at q
        cases q
      · exact nm z
  have hl : ∀ q ∈ news', (hideAll s'.heap (e :: (envOf name scope L a cd :: outer).filterMap (·.frame))).get? q.1 = some q.2 ∧ g.get? q.1 = none ∧ base.get? q.1 = none := fun q hq => by
    obtain ⟨hq, hne⟩ := hsub q hq
    refine ⟨hideAll_get _ (N q hq).1 fun hm => ?_, (N q hq).2.2, fresh_of_stays K.stays (N q hq).2.2⟩
    rcases List.mem_cons.mp hm with h1 | hm
    · exact hne h1
    obtain ⟨env, h1, hf⟩ := List.mem_filterMap.mp hm
    rcases List.mem_cons.mp h1 with rfl | h1
    · exact (N q hq).2.1 (Option.some.inj hf).symm
    · obtain ⟨o, ho, _⟩ := (K.frames.mem (List.mem_filterMap.mpr ⟨env, h1, hf⟩)).2
      rw [(N q hq).2.2] at ho; cases ho
  have hen : (hideAll s'.heap (e :: (envOf name scope L a cd :: outer).filterMap (·.frame))).get? e = none := hideAll_none _ (.head _)
  refine wpAny_leaving_firstW (a0 := .ref t) K'.stack (funFrames_hide K'.frames hin) rfl he1 (fun b o hb => of_hideAll _ hb) hen rfl rfl rfl fun h' hL => ?_
  obtain ⟨k1, ⟨_, _, k2⟩, k3, k4⟩ := hL
  exact hQ h' ⟨_, .ref t, st, sg, hl, k1, hen, k2, k3⟩ ((Heap.UpToSlots.of_keeps F.keep).trans k4)
/-- a call that ends in a TypeFault, whatever stood in the ledger stands -/
abbrev MeetE (lv : Nat) (w : World) (mean : ExcName → Option Value) (mg mb : Str → Option Value) (f : Addr) (news : Led) (vs : List Value) : Prop :=
  ∀ (dp un : Nat) (gd : Option (List Code)) (cn : Str) (cs : Scope) (a : Addr) (ccd : Value) (cl : List (Str × Addr)) (outer : List Env) (A₀ : Around) (base h₀ : Heap) (L : Addr) (m : Str → Option Value) (s : Shared) (Q E : Value → Shared → Prop),
    Below A₀ base outer h₀ → Fr h₀ L s.heap m → (hd.heap_39 w.params).In h₀ → News h₀ L s.heap news → Top topProg lo0 mean mg mb h₀ → cs.kind = .function → dp + lv < recursionLimit → un + 8 * lv < cLine →
    (∀ (e : Addr) (g₂ h' : Heap) (tk' : Nat), Fr h₀ L g₂ m → RaisedSN base g₂ (envX cn cs L a ccd cl :: outer) e (.ref 45) news h' → g₂.UpToSlots h' → E (.ref e) { s with heap := h', toks := tk' }) →
    wpAny (model PySem.Challenge.rw_pf0161_01.row.prog w) (ktrTop dp un gd cn cs L a ccd cl outer) (call (.ref f) vs) Q E s
local macro_rules | `(tactic| k_all) => `(tactic| (intro p hp; have l9 := (by assumption : ∀ p ∈ (_ : Led), p.1 ≠ _); first | exact l9 p hp | exact l9 p (.tail _ hp) | exact l9 p (.tail _ (.tail _ hp)) | exact l9 p (.tail _ (.tail _ (.tail _ hp))) | exact l9 p (.tail _ (.tail _ (.tail _ (.tail _ hp))))))
local macro_rules | `(tactic| walk_at "call builtin:Exception.__init__") => `(tactic| (k_here; k_dflt (refine' excInit_K ?zF ?zN ?zU ?zX ?_; (case zF => k_asm); (case zN => k_asm); (case zX => k_asm); (case zU => k_updF)); intro t2' h' F' N' l1; (try dsimp only at N'); (try k_lt l1); (try k_sweep)))
local macro_rules | `(tactic| walk_at "setAttr ref") => `(tactic| (k_here; k_dflt (refine' set45_first ?zF ?zX ?zN ?zU ?zs ?zc ?zm ?zd ?zf ?_; (case zF => k_asm); (case zX => k_asm); (case zN => k_asm); (case zU => k_updF); (case zs => k_is); (case zc => k_is); (case zm => exact rfl); (case zd => exact rfl); (case zf => k_is)); intro dx' od' h' tk' F' N' l1 l3 hn'; (try dsimp only at N'); (try k_lt l1); (try k_sweep)))
local macro_rules | `(tactic| walk_at "setAttr ref") => `(tactic| (k_here; k_dflt (refine' set45_next ?zF ?zX ?zN ?zn ?zU ?ze ?zs ?zc ?zm ?zd ?zf ?_; (case zF => k_asm); (case zX => k_asm); (case zN => k_asm); (case zn => assumption); (case zU => k_updF); (case ze => k_mem); (case zs => k_is); (case zc => k_is); (case zm => exact rfl); (case zd => exact rfl); (case zf => k_is)); intro od' h' tk' F' N'; (try dsimp only at N'); (try k_sweep)))
local macro_rules | `(tactic| walk_at "exec Raise some none") => `(tactic| (k_here; k_dflt (refine raise45 rfl ?_)))
local macro_rules | `(tactic| walk_at "Raised45") => `(tactic| (k_here; k_dflt (refine' ⟨_, _, _, _, _, _, _, _, _, _, _, _, _, _, _, _, _, _, rfl, ?zc, ?ze, ?_⟩; (case zc => exact (Frag.In.keeps (by k_asm) (Fr.keep (by k_asm))) 45 _ (by k_is)); (case ze => exact (News.get (by k_asm) (by k_mem))))))
structure BadWord (w : Str) : Prop where
  eq : (w == Str.ofString "==") = false
  ne : (w == Str.ofString "!=") = false
  lt : (w == Str.ofString "<") = false
  le : (w == Str.ofString "<=") = false
  gt : (w == Str.ofString ">") = false
  ge : (w == Str.ofString ">=") = false
  short : w.length ≤ 2
theorem cmpE_meets {w : World} {mean : ExcName → Option Value} {mg mb : Str → Option Value} {news : Led} {word : Str} {tw : Tok} {v1 v2 : Value} (hw : BadWord word) : MeetE 4 w mean mg mb 139 news [.str word tw, v1, v2] := by
  unfold MeetE
  k_fill
  intro dp un gd cn cs a ccd cl outer A₀ base h₀ L m s Q E B F X N T hk hdp hun hret
  obtain ⟨hw1, hw2, hw3, hw4, hw5, hw6, hw7⟩ := hw
  refine wpAny_call ?_
  k_dflt ktr_enter
  k_with_none
  k_steps
  refine' ⟨_, _, _, _, _, _, _, _, _, _, _, _, _, _, _, _, _, _, rfl, ?zc, ?ze, ?_⟩
  case zc => (have hC := (Frag.In.keeps (by k_asm) (Fr.keep (by k_asm)) : (hd.heap_39 w.params).In _) 45 _ (by k_is); exact hC)
  case ze => exact (News.get (by k_asm) (by k_mem))
  k_unfold
  try dsimp only
  refine' leave45 (news' := news) ?yK ?yF ?yN ?ye ?ys ?_
  case yF => k_asm
  case yN => k_asm
  case yK => assumption
  case ye => k_mem
  case ys => exact fun p hp => ⟨.tail _ (.tail _ (.tail _ (.tail _ hp))), (by assumption : ∀ p ∈ news, p.1 ≠ _) p hp⟩
  intro h' R U
  exact hret _ _ _ _ (by assumption) R U
structure BadOp (w : Str) : Prop where
  o1 : (w == Str.ofString "+") = false
  o2 : (w == Str.ofString "-") = false
  o3 : (w == Str.ofString "*") = false
  o4 : (w == Str.ofString "&") = false
  o5 : (w == Str.ofString "|") = false
  o6 : (w == Str.ofString "^") = false
  o7 : (w == Str.ofString "/") = false
  o8 : (w == Str.ofString "%") = false
  o9 : (w == Str.ofString "<<") = false
  o10 : (w == Str.ofString ">>") = false
  short : w.length ≤ 2
theorem not_any {w a b : Str} (ha : (w == a) = false) (hb : (w == b) = false) (h : ([a, b].any fun x => x == w) = true) : False := by
  simp only [List.any_cons, List.any_nil, Bool.or_false, Bool.or_eq_true] at h
  rcases h with h | h
  · rw [eq_of_beq h, beq_self_eq_true] at ha; exact Bool.noConfusion ha
  · rw [eq_of_beq h, beq_self_eq_true] at hb; exact Bool.noConfusion hb
theorem not_any' {w a b : Str} (h : ([a, b].any fun x => x == w) = true) (ha : (w == a) = false) (hb : (w == b) = false) : False := not_any ha hb h
local macro_rules | `(tactic| walk_at "call ref") => `(tactic| (k_here; (with_reducible show wpAny _ _ (PySem.call (Value.ref 118) _) _ _ _); k_dflt (exact (not_any' (by assumption) (by assumption) (by assumption)).elim)))
theorem exactE_meets {w : World} {mean : ExcName → Option Value} {mg mb : Str → Option Value} {news : Led} {word : Str} {tw : Tok} {v1 v2 : Value} (hw : BadOp word) : MeetE 4 w mean mg mb 104 news [.str word tw, v1, v2] := by
  unfold MeetE
  k_fill
  intro dp un gd cn cs a ccd cl outer A₀ base h₀ L m s Q E B F X N T hk hdp hun hret
  obtain ⟨hw1, hw2, hw3, hw4, hw5, hw6, hw7, hw8, hw9, hw10, hw11⟩ := hw
  refine wpAny_call ?_
  k_dflt ktr_enter
  k_with_none
  k_steps
  · exact (not_any hw7 hw8 (by assumption)).elim
  refine' ⟨_, _, _, _, _, _, _, _, _, _, _, _, _, _, _, _, _, _, rfl, ?zc, ?ze, ?_⟩
  case zc => (have hC := (Frag.In.keeps (by k_asm) (Fr.keep (by k_asm)) : (hd.heap_39 w.params).In _) 45 _ (by k_is); exact hC)
  case ze => exact (News.get (by k_asm) (by k_mem))
  k_unfold
  try dsimp only
  refine' leave45 (news' := news) ?yK ?yF ?yN ?ye ?ys ?_
  case yF => k_asm
  case yN => k_asm
  case yK => assumption
  case ye => k_mem
  case ys => exact fun p hp => ⟨.tail _ (.tail _ (.tail _ (.tail _ (.tail _ hp)))), (by assumption : ∀ p ∈ (_ :: news : Led), p.1 ≠ _) p (.tail _ hp)⟩
  intro h' R U
  exact hret _ _ _ _ (by assumption) R U
local macro_rules | `(tactic| walk_at "call ref") => `(tactic| (k_here; (with_reducible show wpAny _ _ (PySem.call (Value.ref 104) _) _ _ _); k_dflt (refine' exactE_meets ?zw _ _ _ _ _ _ _ _ _ _ _ _ _ _ _ _ _ ?zB ?zF ?zX ?zN ?zT ?zk ?zd ?zu ?_; (case zB => k_asm); (case zF => k_asm); (case zX => k_asm); (case zN => k_asm); (case zT => k_asm); (case zk => first | exact rfl | assumption); (case zw => assumption); (case zd => ktr_room); (case zu => ktr_units)); intro e' g₂' h' tk' F' R' U'; (try dsimp only)))
theorem raisedSN_sub {base G h : Heap} {l : List Env} {e : Addr} {cls : Value} {news news' : Led} (R : RaisedSN base G l e cls news h) (hs : ∀ p ∈ news', p ∈ news) : RaisedSN base G l e cls news' h := by
  obtain ⟨B, a0, h1, h2, hl, h4⟩ := R
  exact ⟨B, a0, h1, h2, fun q hq => hl q (hs q hq), h4⟩
theorem checkedE_meets {w : World} {mean : ExcName → Option Value} {mg mb : Str → Option Value} {news : Led} {k word : Str} {tk tw : Tok} {v1 v2 : Value} (hw : BadOp word) : MeetE 6 w mean mg mb 111 news [.str k tk, .str word tw, v1, v2] := by
  unfold MeetE
  k_fill
  intro dp un gd cn cs a ccd cl outer A₀ base h₀ L m s Q E B F X N T hk hdp hun hret
  have hw0 := hw
  obtain ⟨hw1, hw2, hw3, hw4, hw5, hw6, hw7, hw8, hw9, hw10, hw11⟩ := hw0
  refine wpAny_call ?_
  k_dflt ktr_enter
  k_with_none
  k_steps
  refine' leave_onSN ?xK ?xF ?xR ?xU ?_
  case xK => assumption
  case xF => assumption
  case xR => assumption
  case xU => assumption
  intro h' R _ U
  exact hret _ _ _ _ (by assumption) (raisedSN_sub R (fun p hp => .tail _ hp)) U
theorem mem_frames {env : Env} {outer : List Env} {L b : Addr} (hf : env.frame = some L) (hm : b ∈ (env :: outer).filterMap (·.frame)) : b = L ∨ b ∈ outer.filterMap (·.frame) := by
  obtain ⟨env', he, hf'⟩ := List.mem_filterMap.mp hm
  rcases List.mem_cons.mp he with rfl | he
  · exact .inl (Option.some.inj (hf'.symm.trans hf))
  · exact .inr (List.mem_filterMap.mpr ⟨env', he, hf'⟩)
section
variable {prog : Program} {w : World} {A₀ A : Around} {s : Shared} {base h₀ : Heap} {outer : List Env} {L : Addr} {m : Str → Option Value} {env : Env} {news : Led} {K : Frag} {p : Program} {loose : List Str} {mean : ExcName → Option Value} {mg mb : Str → Option Value}
    {R : Result → Shared → Prop} {name qual : Str} {params : Arguments} {body : List Stmt} {scope : Scope} {dV kV doc pm cdv ct oc : Value} {an od : Option Addr} {osl : Array (Option Value)} {f : Addr} {args : Args} {binds : List (Str × Value)}
/-- entering a def from a frame of any make, where frames may be noted behind it -/
theorem enterS (B : Below A₀ base outer h₀) (F : Fr h₀ L s.heap m) (X₀ : K.In h₀) (N : News h₀ L s.heap news) (T : Top p loose mean mg mb h₀) (XB : K.In base) (TB : Top p loose mean mg mb base) (D : KtsDicts (outer.filterMap (·.frame)) h₀)
    (hA : A.frames = some (env :: outer)) (hf : env.frame = some L) (hke : env.scope.kind = .function)
    (ho : K.lookup f = some ⟨oc, od, .func (fnOf name qual params body scope dV kV doc pm an cdv ct), osl⟩) (hcd : codeIn K cdv qual = true) (hroom : A.depth < recursionLimit)
    (hbind : BindsTo s (fnOf name qual params body scope dV kV doc pm an cdv ct) args binds) (hloc : ∀ y ∈ binds, scope.names.lookup y.1 = some .local)
    (h : ∀ g L' h₁, Fr h₀ L g m → Fr g L' h₁ (fun y => binds.reverse.lookup y) → News g L' h₁ news → Below A base (env :: outer) g → K.In g → Top p loose mean mg mb g → KtsDicts ((env :: outer).filterMap (·.frame)) g →
      wpAny (model prog w) (A.deeper (envOf qual scope L' f cdv)) (execs body (envOf qual scope L' f cdv))
        (fun fl s' => LeaveS ((env :: outer).filterMap (·.frame)) A₀ base outer K p loose mean mg mb h₀ h₀ L m g R (match fl with | .ret v => v | _ => .none) s')
        (fun e s' => wpAny (model prog w) (A.deeper (envOf qual scope L' f cdv)) (leaving (envOf qual scope L' f cdv) e) (fun _ s'' => R (.error e) s'') (fun e' s'' => R (.error e') s'') s')
        { s with heap := h₁, toks := s.toks + binds.length })
    (hco : scope.isCoroutine = false) (hgen : scope.isGenerator = false) (hk : scope.kind = .function)
    (hcell : ∀ x ∈ scope.names, x.2 ≠ .cell) : codeAny (model prog w) A (.call (.ref f) args) R s := by
  have X := X₀.keeps F.keep
  refine codeAny_call_def (fd := fnOf name qual params body scope dV kV doc pm an cdv ct) (body := body) (binds := binds) hroom (X _ _ ho) rfl (T.nolimit.keeps F.keep) (codeRec_of X hcd) rfl hbind hcell hloc (fun h₁ hns hk₁ => ?_) hco hgen hk
  obtain ⟨FG, BG, st, -⟩ := groundX (R := R) B F N hA hf hke
  obtain ⟨oL, es, ep, hLg, hLd, hLk, hLf⟩ := FG.ns
  refine wpAny_mono (h _ s.heap.objs.size h₁ FG ⟨hns, fun b o e => hk₁ b o (of_hideAll _ e), Nat.le_of_eq (hideAll_size _ _)⟩
    (fun p hp => ⟨hk₁ _ _ (N p hp).1, Nat.ne_of_lt (Heap.lt_size (N p hp).1), hideAll_none _ (List.mem_map_of_mem hp)⟩) BG (X₀.keeps st) (T.keeps st) (fun b hb => by
      rcases mem_frames hf hb with rfl | hb
      · exact ⟨oL, es, ep, hLg, hLd⟩
      · obtain ⟨o, es', n', ho', hd'⟩ := D b hb
        exact ⟨o, es', n', st b o ho', hd'⟩)) (fun fl s' hl => ?_) fun _ _ y => y
  have nL₀ : h₀.get? L = none := kts_self F
  rcases hl with ⟨L', m', news', F', N', k⟩ | ⟨g', L', m', news', T', F', N', k⟩
  · refine k ⟨⟨oL, es, ep, F'.keep _ _ hLg, hLd, hLk, hLf⟩, fun b o e => F'.keep b o (st b o e), F.above⟩ fun p hp => ⟨(N' p hp).1, fun q => ?_, ?_⟩
    · have := (N' p hp).2.2; rw [q, hLg] at this; cases this
    · cases q : h₀.get? p.1 with
      | none => rfl
      | some o => have := (N' p hp).2.2; rw [st _ _ q] at this; cases this
  obtain ⟨sl, hs⟩ := T'.up hLg
  obtain ⟨T₁, S₁⟩ := kts_turn_at (h := s'.heap) (fs := outer.filterMap (·.frame)) (g := h₀)
    (fun b hb => by
      obtain ⟨_, o, ho', _⟩ := B.frames.mem hb
      exact ⟨o, ho'⟩)
    (fun b o e nmem => F'.keep b o (T'.other b o (st b o e) (fun q => by
      rcases mem_frames hf q with z | z
      · rw [z, nL₀] at e
        cases e
      · exact nmem z)))
    (fun b o e hm => by
      obtain ⟨sl', hs'⟩ := T'.up (st b o e)
      exact ⟨sl', F'.keep _ _ hs'⟩)
  have B₃ : Below A₀ base outer (ktsHeap s'.heap (outer.filterMap (·.frame)) h₀) := ⟨B.stack, fun b o e => T₁.other b o (B.stays b o e) (fun hm => by
    rw [(B.frames.mem hm).1] at e
    cases e), B.frames.of_keeps fun b o e _ => by
    obtain ⟨sl', hs'⟩ := T₁.up e
    exact ⟨_, hs', rfl⟩⟩
  refine k _ T₁ ⟨⟨_, es, ep, F'.keep _ _ hs, hLd, hLk, hLf⟩, S₁, by rw [T₁.size]; exact F.above⟩ (fun p hp => ⟨(N' p hp).1, fun q => ?_, ?_⟩) B₃ (XB.keeps B₃.stays) (TB.keeps B₃.stays) (D.turn T₁)
  · have := (N' p hp).2.2; rw [q, hs] at this; cases this
  · refine T₁.none_ _ ?_
    cases q : h₀.get? p.1 with
    | none => rfl
    | some o =>
      obtain ⟨sl', hs'⟩ := T'.up (st _ _ q)
      have := (N' p hp).2.2
      rw [hs'] at this
      cases this
/-- entering a def with cells from the first frame, where that frame may be noted behind it -/
theorem enterS0C (B : Below A₀ base [] h₀) (F : Fr h₀ L s.heap m) (X₀ : K.In h₀) (N : News h₀ L s.heap news) (T : Top p loose mean mg mb h₀) (hA : A.frames = some [env]) (hf : env.frame = some L) (hke : env.scope.kind = .function)
    (ho : K.lookup f = some ⟨oc, od, .func (fnOf name qual params body scope dV kV doc pm an cdv ct), osl⟩) (hcd : codeIn K cdv qual = true) (hroom : A.depth < recursionLimit)
    (hbind : BindsTo s (fnOf name qual params body scope dV kV doc pm an cdv ct) args binds) (hkind : (binds.all fun y => scope.names.lookup y.1 == some .local || scope.names.lookup y.1 == some .cell) = true)
    (hnd : ((cellsFrom 0 scope.names []).map (·.1)).Nodup)
    (h : ∀ g L' h₁ tk cells, Fr h₀ L g m → Fr g L' h₁ (bindL (envOfC qual scope L' f cdv).kindOf binds fun _ => none) → News g L' h₁ (cells ++ news) →
      CellsAre (bindC (envOfC qual scope L' f cdv).kindOf binds fun _ => none) (cellsFrom (L' + 1) scope.names []) cells → Below A base [env] g → K.In g → Top p loose mean mg mb g → KtsDicts ([env].filterMap (·.frame)) g → (∀ p ∈ news, p.1 < L') →
      wpAny (model prog w) (A.deeper (envOfC qual scope L' f cdv)) (execs body (envOfC qual scope L' f cdv))
        (fun fl s' => LeaveS0 ([env].filterMap (·.frame)) h₀ L m g R (match fl with | .ret v => v | _ => .none) s')
        (fun e s' => wpAny (model prog w) (A.deeper (envOfC qual scope L' f cdv)) (leaving (envOfC qual scope L' f cdv) e) (fun _ s'' => R (.error e) s'') (fun e' s'' => R (.error e') s'') s')
        { s with heap := h₁, toks := tk })
    (hco : scope.isCoroutine = false) (hgen : scope.isGenerator = false) (hk : scope.kind = .function) : codeAny (model prog w) A (.call (.ref f) args) R s := by
  have X := X₀.keeps F.keep
  obtain ⟨FG, BG, st, -⟩ := groundX (R := R) B F N hA hf hke
  obtain ⟨oL, es, ep, hLg, hLd, hLk, hLf⟩ := FG.ns
  refine codeAny_call_function hroom (X _ _ ho) rfl hco hgen rfl (codeRec_of X hcd) (hbind _ _ _ _ ?_)
  refine wpAny_newFunctionEnv_cells hk (kindsX hkind _) fun env' he s' x => ?_
  subst he
  refine ⟨(T.nolimit.keeps F.keep).keeps x.toInCall.keep, codeAny_func ?_⟩
  obtain ⟨h₁, tk, rfl, _⟩ := x.done
  have hk₁ := x.toInCall.keep
  obtain ⟨cells, NC, Y⟩ := Cl.news (h₀ := s.heap) (Nat.le_refl _) fun n c hm => ⟨x.cell n c (lookup_of_mem_nodup (cellsFrom_names scope.names 0 (s.heap.objs.size + 1) [] [] rfl ▸ hnd) hm), x.above n c hm⟩
  refine wpAny_mono (h _ s.heap.objs.size h₁ tk cells FG ⟨x.toInCall.ns, fun b o e => hk₁ b o (of_hideAll _ e), Nat.le_of_eq (hideAll_size _ _)⟩ (fun p hp => ?_) Y BG (X₀.keeps st) (T.keeps st) (fun b hb => by
      rcases mem_frames hf hb with rfl | hb
      · exact ⟨oL, es, ep, hLg, hLd⟩
      · simp at hb) (fun p hp => Heap.lt_size (N p hp).1)) (fun fl s' hl => ?_) fun _ _ y => y
  · rcases List.mem_append.mp hp with hp | hp
    · refine ⟨(NC p hp).1, (NC p hp).2.1, ?_⟩
      cases q : (hideAll s.heap (news.map (·.1))).get? p.1 with
      | none => rfl
      | some o => have := of_hideAll _ q; rw [(NC p hp).2.2] at this; cases this
    · exact ⟨hk₁ _ _ (N p hp).1, Nat.ne_of_lt (Heap.lt_size (N p hp).1), hideAll_none _ (List.mem_map_of_mem hp)⟩
  · obtain ⟨g', L', m', news', T', F', N', k⟩ := hl
    have nL₀ : h₀.get? L = none := kts_self F
    obtain ⟨sl, hs⟩ := T'.up hLg
    refine k ⟨⟨_, es, ep, F'.keep _ _ hs, hLd, hLk, hLf⟩, fun b o e => F'.keep b o (T'.other b o (st b o e) (fun q => by
      rcases mem_frames hf q with z | z
      · rw [z, nL₀] at e
        cases e
      · simp at z)), F.above⟩ fun p hp => ⟨(N' p hp).1, fun q => ?_, ?_⟩
    · have := (N' p hp).2.2; rw [q, hs] at this; cases this
    · cases q : h₀.get? p.1 with
      | none => rfl
      | some o =>
        obtain ⟨sl', hs'⟩ := T'.up (st _ _ q)
        have := (N' p hp).2.2
        rw [hs'] at this
        cases this
end
local macro_rules | `(tactic| walk_at "call ref") => `(tactic| (k_here; (with_reducible show wpAny _ _ (PySem.call (Value.ref _) []) _ _ _); (have hM := (by assumption : MeetE _ _ _ _ _ _ _ _)); k_dflt (refine' hM _ _ _ _ _ _ _ _ _ _ _ _ _ _ _ _ _ ?zB ?zF ?zX ?zN ?zT ?zk ?zd ?zu ?_; (case zB => k_asm); (case zF => k_asm); (case zX => k_asm); (case zN => k_asm); (case zT => k_asm); (case zk => first | exact rfl | assumption); (case zd => ktr_room); (case zu => ktr_units)); intro e' g₂' h' tk' F' R' U'; (try dsimp only)))
theorem isRef_meets {w : World} {mean : ExcName → Option Value} {mg mb : Str → Option Value} {news : Led} {lam : Addr} {oc : Value} {od : Option Addr} {fd : FuncData} {osl : Array (Option Value)} (hmem : (lam, (⟨oc, od, .func fd, osl⟩ : Obj)) ∈ news) (hl : MeetE 10 w mean mg mb lam news []) :
  ∀ (dp un : Nat) (gd : Option (List Code)) (cn : Str) (cs : Scope) (a : Addr) (ccd : Value) (cl : List (Str × Addr)) (outer : List Env) (A₀ : Around) (base h₀ : Heap) (L : Addr) (m : Str → Option Value) (s : Shared) (Q E : Value → Shared → Prop),
    Below A₀ base outer h₀ → Fr h₀ L s.heap m → (hd.heap_39 w.params).In h₀ → News h₀ L s.heap news → Top topProg lo0 mean mg mb h₀ → cs.kind = .function → dp + 12 < recursionLimit → un + 8 * 12 < cLine →
    (hd.heap_39 w.params).In base → Top topProg lo0 mean mg mb base → KtsDicts (outer.filterMap (·.frame)) h₀ → CodeHd base 222 218 →
    (∀ (h₀' h' : Heap) (tk' : Nat), KtsTurn (outer.filterMap (·.frame)) h₀ h₀' → Fr h₀' L h' m → News h₀' L h' news → Below A₀ base outer h₀' → (hd.heap_39 w.params).In h₀' → Top topProg lo0 mean mg mb h₀' → KtsDicts (outer.filterMap (·.frame)) h₀' → Q (.bool true) { s with heap := h', toks := tk' }) →
    wpAny (model PySem.Challenge.rw_pf0161_01.row.prog w) (ktrTop dp un gd cn cs L a ccd cl outer) (call (.ref 216) [.ref lam]) Q E s := by
  k_fill
  intro dp un gd cn cs a ccd cl outer A₀ base h₀ L m s Q E B F X N T hk hdp hun XB TB D hcode hret
  refine wpAny_call ?_
  refine' enterS ?y1 ?y2 ?y3 ?y4 ?y5 ?yX ?yT ?yD ?yA ?yF ?yK ?y6 ?y7 ?y8 ?y9 ?yB ?_ ?c2 ?c3 ?c4 ?c5
  case yA => exact rfl
  case yF => exact rfl
  case yK => assumption
  case y1 => k_asm
  case y2 => k_asm
  case y3 => k_asm
  case y4 => k_asm
  case y5 => k_asm
  case yX => assumption
  case yT => assumption
  case yD => assumption
  case y6 => k_dflt k_is
  case y7 => k_dflt k_is
  case y8 => ktr_room
  case y9 => exact BindsTo.of_eq rfl
  case yB => exact locs rfl
  case c2 => exact rfl
  case c3 => exact rfl
  case c4 => exact rfl
  case c5 => decide
  intro g' L' h' FG' F' N' B' X' T' D'
  dsimp only
  k_fold
  k_with_none
  k_steps
  · rename_i kT kF kN kB kX0 kP kD kX
    exact hret _ _ _ kT kF kN kB kX0 kP kD
theorem leave_onG {M : Model} {A : Around} {E : Value → Shared → Prop} {s' : Shared} {base g g₂ : Heap} {outer : List Env} {L e : Addr} {env : Env} {m : Str → Option Value} {cls : Value} {Q : Unit → Shared → Prop} {news : Led}
    (K : Below A base outer g) (F : Fr g L g₂ m) (hf : env.frame = some L) (R : RaisedSN base g₂ (env :: outer) e cls news s'.heap) (hsm : g₂.UpToSlots s'.heap)
    (hQ : ∀ h', RaisedSN base g outer e cls news h' → g.UpToSlots h' → Q () { s' with heap := h' }) : wpAny M (A.deeper env) (leaving env (.ref e)) Q E s' := by
  obtain ⟨B, a0, hB, hBG, hl, hfl⟩ := R
  exact wpAny_leaves_onW (Around.frames_deeper K.stack) hf hfl fun h' x1 x2 => hQ h' ⟨B, a0, hB, fun b o q nm => hBG b o (F.keep b o q) (fun hm => by
      rcases mem_frames hf hm with z | z
      · rw [z, kts_self F] at q
        cases q
      · exact nm z), fun q hq => ⟨(hl q hq).1, kts_none F.keep (hl q hq).2.1, (hl q hq).2.2⟩, x1⟩ ((Heap.UpToSlots.of_keeps F.keep).trans (hsm.trans x2))
theorem bad_of {r : Value} {t1 t2 t3 t4 t5 t6 : Tok} (h : r ∈ [Value.str (Str.ofString "=") t1, Value.str (Str.ofString "<>") t2, Value.str (Str.ofString "&&") t3, Value.str (Str.ofString "") t4, Value.str (Str.ofString "!") t5, Value.str (Str.ofString "**") t6]) :
    ∃ (wd : Str) (t : Tok), r = .str wd t ∧ BadWord wd ∧ BadOp wd := by
  simp only [List.mem_cons, List.not_mem_nil, or_false] at h
  rcases h with rfl | rfl | rfl | rfl | rfl | rfl
  all_goals exact ⟨_, _, rfl, ⟨by decide +kernel, by decide +kernel, by decide +kernel, by decide +kernel, by decide +kernel, by decide +kernel, by decide +kernel⟩,
    ⟨by decide +kernel, by decide +kernel, by decide +kernel, by decide +kernel, by decide +kernel, by decide +kernel, by decide +kernel, by decide +kernel, by decide +kernel, by decide +kernel, by decide +kernel⟩⟩
theorem bad_plus : BadWord (Str.ofString "+") := ⟨by decide +kernel, by decide +kernel, by decide +kernel, by decide +kernel, by decide +kernel, by decide +kernel, by decide +kernel⟩
local macro_rules | `(tactic| walk_at "call ref") => `(tactic| (k_here; (with_reducible show wpAny _ _ (PySem.call (Value.ref 160) _) _ _ _); k_dflt (refine halt ?_)))
local macro_rules | `(tactic| walk_at "call ref") => `(tactic| (k_here; (with_reducible show wpAny _ _ (PySem.call (Value.ref 139) _) _ _ _); k_dflt (refine' cmpE_meets ?zw _ _ _ _ _ _ _ _ _ _ _ _ _ _ _ _ _ ?zB ?zF ?zX ?zN ?zT ?zk ?zd ?zu ?_; (case zB => k_asm); (case zF => k_asm); (case zX => k_asm); (case zN => k_asm); (case zT => k_asm); (case zk => first | exact rfl | assumption); (case zw => first | assumption | exact bad_plus); (case zd => ktr_room); (case zu => ktr_units)); intro e' g₂' h' tk' F' R' U'; (try dsimp only)))
local macro_rules | `(tactic| walk_at "call ref") => `(tactic| (k_here; (with_reducible show wpAny _ _ (PySem.call (Value.ref 111) _) _ _ _); k_dflt (refine' checkedE_meets ?zw _ _ _ _ _ _ _ _ _ _ _ _ _ _ _ _ _ ?zB ?zF ?zX ?zN ?zT ?zk ?zd ?zu ?_; (case zB => k_asm); (case zF => k_asm); (case zX => k_asm); (case zN => k_asm); (case zT => k_asm); (case zk => first | exact rfl | assumption); (case zw => assumption); (case zd => ktr_room); (case zu => ktr_units)); intro e' g₂' h' tk' F' R' U'; (try dsimp only)))
local macro_rules | `(tactic| walk_at "call ref") => `(tactic| (k_here; (with_reducible show wpAny _ _ (PySem.call (Value.ref 216) _) _ _ _); k_dflt (refine halt ?_)))
theorem refused_meets {w : World} {mean : ExcName → Option Value} {mg mb : Str → Option Value} {src : Addr} {x y : Int} {tx ty : Tok} {n : Nat} {k : Str} {tk : Tok} (hy : 0 ≤ y ∧ y < 2147483647) (hs : @LT.lt Nat instLTNat 218 src) :
  ∀ (dp un : Nat) (gd : Option (List Code)) (cn : Str) (cs : Scope) (a : Addr) (ccd : Value) (cl : List (Str × Addr)) (A₀ : Around) (h₀ : Heap) (L : Addr) (m : Str → Option Value) (s : Shared) (Q E : Value → Shared → Prop),
    Below A₀ h₀ [] h₀ → Fr h₀ L s.heap m → (hd.heap_39 w.params).In h₀ → News h₀ L s.heap (srcL src x y tx ty n) → Top topProg lo0 mean mg mb h₀ → cs.kind = .function → dp + 20 < recursionLimit → un + 8 * 20 < cLine → CodeHd h₀ 222 218 →
    (∀ (r : Value) (news' : Led) (h' : Heap) (tk' : Nat), (∃ (x y : Int) (tx ty : Tok) (n : Nat) (ps : Array Value), r = .bool true ∧ news' = [(src, listOf #[.int x tx, .int y ty] n), (218, tabObj ps)] ∧ 0 ≤ y ∧ y < 2147483647) → Fr h₀ L h' m → News h₀ L h' news' → Q r { s with heap := h', toks := tk' }) →
    wpAny (model PySem.Challenge.rw_pf0161_01.row.prog w) (ktrTop dp un gd cn cs L a ccd cl []) (call (.ref 223) [.ref src, .str k tk]) Q E s := by
  k_fill
  intro dp un gd cn cs a ccd cl A₀ h₀ L m s Q E B F X N T hk hdp hun hcode hret
  refine wpAny_call ?_
  refine' enterS0C ?y1 ?y2 ?y3 ?y4 ?y5 ?yA ?yF ?yK ?y6 ?y7 ?y8 ?y9 ?yB ?yD ?_ ?c2 ?c3 ?c4
  case yA => exact rfl
  case yF => exact rfl
  case yK => assumption
  case y1 => k_asm
  case y2 => k_asm
  case y3 => k_asm
  case y4 => k_asm
  case y5 => k_asm
  case y6 => k_dflt k_is
  case y7 => k_dflt k_is
  case y8 => ktr_room
  case y9 => exact BindsTo.of_eq rfl
  case yB => exact rfl
  case yD => decide +kernel
  case c2 => exact rfl
  case c3 => exact rfl
  case c4 => exact rfl
  intro g' L' h' tk' cells' FG' F' N' Y' B' X' T' D' l1
  (try k_lt l1)
  k_cells Y'
  (try simp only [List.cons_append, List.nil_append] at N')
  try dsimp only
  (try k_fold)
  k_with_none
  k_steps
  unfold Halt
  k_dflt (refine' one_upd ?zU ?zo ?zv ?zn ?zm _ _ _ _ _ _ _ _ _ _ _ _ _ _ _ _ _ ?zB ?zF ?zX ?zN ?zT ?zk ?zd ?zu ?_)
  (case zB => k_asm); (case zF => k_asm); (case zX => k_asm); (case zN => k_asm); (case zT => k_asm); (case zk => first | exact rfl | assumption)
  (case zU => k_updF)
  (case zo => exact ⟨_, _, _, _, _, rfl, by assumption⟩); (case zm => k_mem); (case zv => exact ⟨Nat.le_of_ble_eq_true rfl, Nat.le_of_ble_eq_true rfl⟩); (case zn => k_ne); (case zd => ktr_room); (case zu => ktr_units)
  rintro _ _ h1' tk1' ⟨o', hO', e1', hV'⟩ F' N'; subst e1'; obtain ⟨x', y', tx', ty', n', e3', hy'⟩ := hO'; subst e3'; obtain ⟨wd', tw', e4', hBw', hBo'⟩ := bad_of hV'; subst e4'; (try dsimp only at N')
  (try dsimp only)
  (try k_fold)
  k_steps
  unfold Halt
  k_dflt (refine' isRef_meets ?zm ?zl _ _ _ _ _ _ _ _ _ _ _ _ _ _ _ _ _ ?zB ?zF ?zX ?zN ?zT ?zk ?zd ?zu ?zX2 ?zT2 ?zD2 ?zH ?_)
  (case zB => k_asm); (case zF => k_asm); (case zX => k_asm); (case zN => k_asm); (case zT => k_asm); (case zk => first | exact rfl | assumption)
  (case zm => k_mem); (case zd => ktr_room); (case zu => ktr_units)
  (case zX2 => assumption); (case zT2 => assumption); (case zD2 => assumption); (case zH => assumption)
  case zl =>
    unfold MeetE
    intro dp2 un2 gd2 cn2 cs2 a2 ccd2 cl2 outer2 A2 base2 h2 L2 m2 s2 Q2 E2 B2 F2 X2 N2 T2 hk2 hdp2 hun2 hret2
    refine wpAny_call ?_
    k_dflt (refine' kla_code ?k1 ?k2 ?k3 ?k4 ?k5 ?kA ?kF ?kK ?k6 ?k7 ?k8 ?k9 ?kB ?_ ?c2 ?c3 ?c4 ?c5; (case kA => exact rfl); (case kF => exact rfl); (case kK => assumption); (case k1 => k_asm); (case k2 => k_asm); (case k3 => k_asm); (case k4 => k_asm); (case k5 => k_asm); (case k6 => k_mem); (case k7 => exact codeRec_news (by k_asm) (by k_mem) (by assumption) (by assumption)); (case k8 => ktr_room); (case k9 => exact rfl); (case c5 => decide); (case kB => exact locs rfl); (case c2 => exact rfl); (case c3 => exact rfl); (case c4 => exact rfl); k_whole; intro g' L' h' FG' F' N' B' X' T'; (try dsimp only); (try k_lift B'); (try k_fold))
    k_with_none
    k_steps
    refine' leave_onG ?w1 ?w2 rfl ?w3 ?w4 ?_
    case w1 => assumption
    case w2 => assumption
    case w3 => assumption
    case w4 => assumption
    intro h9 R9 U9
    exact hret2 _ _ _ _ (by assumption) R9 U9
  intro hh1 hq1 tq1 KT1 F' N' B' X' T' D'
  (try dsimp only)
  k_steps
  unfold Halt
  k_dflt (refine' isRef_meets ?zm ?zl _ _ _ _ _ _ _ _ _ _ _ _ _ _ _ _ _ ?zB ?zF ?zX ?zN ?zT ?zk ?zd ?zu ?zX2 ?zT2 ?zD2 ?zH ?_)
  (case zB => k_asm); (case zF => k_asm); (case zX => k_asm); (case zN => k_asm); (case zT => k_asm); (case zk => first | exact rfl | assumption)
  (case zm => k_mem); (case zd => ktr_room); (case zu => ktr_units)
  (case zX2 => assumption); (case zT2 => assumption); (case zD2 => assumption); (case zH => assumption)
  case zl =>
    unfold MeetE
    intro dp2 un2 gd2 cn2 cs2 a2 ccd2 cl2 outer2 A2 base2 h2 L2 m2 s2 Q2 E2 B2 F2 X2 N2 T2 hk2 hdp2 hun2 hret2
    refine wpAny_call ?_
    k_dflt (refine' kla_code ?k1 ?k2 ?k3 ?k4 ?k5 ?kA ?kF ?kK ?k6 ?k7 ?k8 ?k9 ?kB ?_ ?c2 ?c3 ?c4 ?c5; (case kA => exact rfl); (case kF => exact rfl); (case kK => assumption); (case k1 => k_asm); (case k2 => k_asm); (case k3 => k_asm); (case k4 => k_asm); (case k5 => k_asm); (case k6 => k_mem); (case k7 => exact codeRec_news (by k_asm) (by k_mem) (by assumption) (by assumption)); (case k8 => ktr_room); (case k9 => exact rfl); (case c5 => decide); (case kB => exact locs rfl); (case c2 => exact rfl); (case c3 => exact rfl); (case c4 => exact rfl); k_whole; intro g' L' h' FG' F' N' B' X' T'; (try dsimp only); (try k_lift B'); (try k_fold))
    k_with_none
    k_steps
    refine' leave_onG ?w1 ?w2 rfl ?w3 ?w4 ?_
    case w1 => assumption
    case w2 => assumption
    case w3 => assumption
    case w4 => assumption
    intro h9 R9 U9
    exact hret2 _ _ _ _ (by assumption) R9 U9
  intro hh2 hq2 tq2 KU2 F' N' B' X' T' D'
  have KT2 := KT1.trans KU2
  (try dsimp only)
  k_steps
  unfold Halt
  k_dflt (refine' isRef_meets ?zm ?zl _ _ _ _ _ _ _ _ _ _ _ _ _ _ _ _ _ ?zB ?zF ?zX ?zN ?zT ?zk ?zd ?zu ?zX2 ?zT2 ?zD2 ?zH ?_)
  (case zB => k_asm); (case zF => k_asm); (case zX => k_asm); (case zN => k_asm); (case zT => k_asm); (case zk => first | exact rfl | assumption)
  (case zm => k_mem); (case zd => ktr_room); (case zu => ktr_units)
  (case zX2 => assumption); (case zT2 => assumption); (case zD2 => assumption); (case zH => assumption)
  case zl =>
    unfold MeetE
    intro dp2 un2 gd2 cn2 cs2 a2 ccd2 cl2 outer2 A2 base2 h2 L2 m2 s2 Q2 E2 B2 F2 X2 N2 T2 hk2 hdp2 hun2 hret2
    refine wpAny_call ?_
    k_dflt (refine' kla_code ?k1 ?k2 ?k3 ?k4 ?k5 ?kA ?kF ?kK ?k6 ?k7 ?k8 ?k9 ?kB ?_ ?c2 ?c3 ?c4 ?c5; (case kA => exact rfl); (case kF => exact rfl); (case kK => assumption); (case k1 => k_asm); (case k2 => k_asm); (case k3 => k_asm); (case k4 => k_asm); (case k5 => k_asm); (case k6 => k_mem); (case k7 => exact codeRec_news (by k_asm) (by k_mem) (by assumption) (by assumption)); (case k8 => ktr_room); (case k9 => exact rfl); (case c5 => decide); (case kB => exact locs rfl); (case c2 => exact rfl); (case c3 => exact rfl); (case c4 => exact rfl); k_whole; intro g' L' h' FG' F' N' B' X' T'; (try dsimp only); (try k_lift B'); (try k_fold))
    k_with_none
    k_steps
    exact hret2 _ _ _ _ (by assumption) (by assumption) (by assumption)
  intro hh3 hq3 tq3 KU3 F' N' B' X' T' D'
  have KT3 := KT2.trans KU3
  (try dsimp only)
  k_steps
  · refine' hret _ _ _ _ ⟨x', y', tx', ty', n', ?ps, rfl, rfl, hy'⟩ (by assumption) ?nN
    case nN =>
      refine' cb_drop ?cbN ?cbS
      case cbN => assumption
      case cbS => kcj_all
section
variable {prog : Program} {w : World} {A : Around} {E : Value → Shared → Prop} {s : Shared} {h₀ : Heap} {L : Addr} {m : Str → Option Value} {news : Led}
theorem pickTo (xs : Array Value) (b : Nat) : ((List.range b).filterMap fun (k : Nat) => xs[((0 : Int) + (k : Int) * 1).toNat]?).toArray = (xs.toList.take b).toArray := by
  have e : (fun (k : Nat) => xs[((0 : Int) + (k : Int) * 1).toNat]?) = ((fun x => xs[x]?) ∘ fun x => 0 + x) := by
    funext k
    have : ((0 : Int) + (k : Int) * 1).toNat = 0 + k := by omega
    rw [this]
    rfl
  have := pick_run xs 0 b
  rw [List.filterMap_map, ← e] at this
  rw [this, List.drop_zero]
theorem adjustTo (b n : Nat) (hb : b ≤ n) : Builtin.Slice.sliceAdjust none (some (b : Int)) 1 (n : Int) = ((0 : Int), (b : Int)) := by
  unfold Builtin.Slice.sliceAdjust
  have h1 : ¬ ((1 : Int) < 0) := by omega
  have h2 : ¬ ((b : Int) < 0) := by omega
  simp only [h1, h2, if_false]
  congr 1
  omega
theorem placesTo (b : Nat) : Builtin.Slice.slicePlaces (0 : Int) (b : Int) 1 = b := by
  unfold Builtin.Slice.slicePlaces
  have h1 : (1 : Int) > 0 := by omega
  simp only [h1, if_true, Int.ediv_one]
  split <;> omega
theorem appliedTo {sl : Addr} {b n : Nat} {u : Tok} {Q : Int × Int × Nat → Shared → Prop} (hs : s.heap.IsSliceOf sl .none (.int b u) .none) (hb : b ≤ n) (h : Q ((0 : Int), 1, b) s) :
    wpAny (model prog w) A (Builtin.Slice.sliceApplied (.ref sl) (pure (n : Int))) Q E s := by
  obtain ⟨os, hos, hcs, hds⟩ := id hs
  unfold Builtin.Slice.sliceApplied Builtin.Slice.sliceFields
  refine wpAny_bind (wpAny_bind (wpAny_field hos hds (x := .none) rfl (wpAny_bind (wpAny_field hos hds (x := .int b u) rfl (wpAny_bind (wpAny_field hos hds (x := .none) rfl (wpAny_pure ?_)))))))
  refine wpAny_bind (slicePart_none ?_)
  show wpAny _ _ (if ((1 : Int) == 0) = true then _ else _) _ _ s
  rw [if_neg (by decide)]
  refine wpAny_bind (slicePart_none (wpAny_bind (slicePart_int (wpAny_bind (wpAny_pure ?_)))))
  show wpAny _ _ (match Builtin.Slice.sliceAdjust none (some (b : Int)) 1 (n : Int) with | (lo, hi) => pure (lo, (1 : Int), Builtin.Slice.slicePlaces lo hi 1)) _ _ s
  rw [adjustTo b n hb]
  show wpAny _ _ (pure ((0 : Int), (1 : Int), Builtin.Slice.slicePlaces (0 : Int) (b : Int) 1)) _ _ s
  rw [placesTo b]
  exact wpAny_pure h
theorem getTupTo {t sl : Addr} {items : Array Value} {b : Nat} {u : Tok} {Q : Value → Shared → Prop} (ht : IsTup s.heap t items) (hs : s.heap.IsSliceOf sl .none (.int b u) .none) (hb : b < items.size)
    (h : Q (.ref s.heap.objs.size) { s with heap := s.heap.push { cls := .type "tuple", data := .seq (items.toList.take b).toArray } })
    (hsz : items.size ≤ sizeLine) : wpAny (model prog w) A (getItem (.ref t) (.ref sl)) Q E s := by
  have htake : sizeOk (.seq (items.toList.take b).toArray) := by
    show (items.toList.take b).toArray.size ≤ sizeLine
    rw [List.size_toArray, List.length_take, Array.length_toList]
    omega
  obtain ⟨os, hos, hcs, hds⟩ := id hs
  have hTs : s.TypeIs (.ref sl) "slice" := ⟨os, hos, hcs⟩
  unfold getItem
  try with_reducible refine wpAny_holding ?_
  first | refine wpAny_bind (wpAny_pure ?_) | skip
  refine wpAny_bind (wpAny_sequenceKey ht.typeIs (by decide) ?_)
  refine wpAny_bind (wpAny_callSpecial?_slot (name := Str.ofString "__getitem__") ht.typeIs slot_tuple_getitem
    (wpAny_call_entry slot_tuple_getitem ht.typeIs entry_tuple_getitem ?_ (args_tuple_getitem _ _)))
  show wpAny _ _ (Builtin.Tuple.tupleItemsOf (.ref t) >>= _) _ _ s
  refine wpAny_bind (tupleItemsOf_ ht ?_)
  refine wpAny_bind (wpAny_typeOf hTs ?_)
  rw [if_pos (by decide)]
  refine wpAny_bind (appliedTo hs (Nat.le_of_lt hb) ?_)
  have hno : ¬ (((0 : Int) == 0 && (1 : Int) == 1 && b == items.size) = true) := by
    have : (b == items.size) = false := by rw [beq_eq_false_iff_ne]; omega
    rw [this]; simp
  show wpAny _ _ (if ((0 : Int) == 0 && (1 : Int) == 1 && b == items.size) = true then _ else _) _ _ s
  rw [if_neg hno, pickTo items b]
  first
    | exact wpAny_bind (m := Builtin.Tuple.tupleExact _) (wpAny_newObj_type (wpAny_pure ⟨_, rfl, wpAny_pure h⟩) htake)
    | exact wpAny_bind (m := Builtin.Tuple.tupleExact _) (wpAny_newObj_type (wpAny_bind (wpAny_pure (wpAny_pure ⟨_, rfl, wpAny_pure h⟩))) htake)
    | exact wpAny_bind (wpAny_bind (m := Builtin.Tuple.tupleExact _) (wpAny_newObj_type (wpAny_pure (wpAny_pure ⟨_, rfl, wpAny_pure h⟩)) htake))
    | exact wpAny_bind (wpAny_bind (m := Builtin.Tuple.tupleExact _) (wpAny_newObj_type (wpAny_pure ⟨_, rfl, wpAny_pure h⟩) htake))
theorem tupTo {value slice : PySem.Expr} {t : Addr} {v0 v1 v2 : Value} {n : Nat} {u : Tok} {Q : Value → Shared → Prop}
    (F : Fr h₀ L s.heap m) (N : News h₀ L s.heap news) (hb : (t, ({ cls := .type "tuple", data := .seq #[v0, v1, v2] n } : Obj)) ∈ news)
    (h : ∀ D h', Fr h₀ L h' m → News h₀ L h' ((D, ({ cls := .type "tuple", data := .seq #[v0, v1] } : Obj)) :: news) → (∀ p ∈ news, p.1 < D) → Q (.ref D) { s with heap := h' })
    (hs : subscripted slice false (.ref t) (.ref s.heap.objs.size) = operate [.ref s.heap.objs.size, .ref t] (getItem (.ref t) (.ref s.heap.objs.size)) := by with_unfolding_all rfl) :
    wpAny (model prog w) A (subscriptTail value slice (.ref t) (.ref s.heap.objs.size)) Q E { s with heap := s.heap.push { cls := .type "slice", data := .fields #[.none, .int 2 u, .none] } } := by
  refine kba_turn (value' := PySem.Expr.Name (PySem.Str.ofString "_") ⟨0, 0, 0, 0⟩) (fun _ => rfl) ?_
  have ht' : IsTup (s.heap.push { cls := .type "slice", data := .fields #[.none, .int 2 u, .none] }) t #[v0, v1, v2] := (N.isTup hb).keeps fun _ _ e => Heap.get?_push_of_some _ e
  refine subscriptTail_ops (s := { s with heap := s.heap.push { cls := .type "slice", data := .fields #[.none, .int 2 u, .none] } }) ht'.typeIs slot_tuple_getitem.lookup
    (getTupTo (b := 2) ht' (Heap.IsSliceOf.new ..) (show (2 : Nat) < 3 by decide) ?_ (show (3 : Nat) ≤ sizeLine from Nat.le_of_ble_eq_true rfl)) hs (fun _ => rfl)
  have N1 := News.push (F.push { cls := .type "slice", data := .fields #[.none, .int 2 u, .none] }) (N.grown fun _ _ e => Heap.get?_push_of_some _ e) { cls := .type "tuple", data := .seq #[v0, v1] }
  rw [Heap.size_push] at N1
  show Q (.ref (s.heap.push _).objs.size) _
  rw [Heap.size_push]
  exact h _ _ ((F.push _).push _) N1 (fun p hp => Nat.lt_succ_of_lt (Heap.lt_size (N p hp).1))
end
theorem ik1 : IsKind (Str.ofString "i8") true 8 := List.Mem.head _
theorem ik2 : IsKind (Str.ofString "i16") true 16 := List.Mem.tail _ (List.Mem.head _)
theorem ik3 : IsKind (Str.ofString "i32") true 32 := List.Mem.tail _ (List.Mem.tail _ (List.Mem.head _))
theorem ik4 : IsKind (Str.ofString "i64") true 64 := List.Mem.tail _ (List.Mem.tail _ (List.Mem.tail _ (List.Mem.head _)))
theorem ik5 : IsKind (Str.ofString "u8") false 8 := List.Mem.tail _ (List.Mem.tail _ (List.Mem.tail _ (List.Mem.tail _ (List.Mem.head _))))
theorem ik6 : IsKind (Str.ofString "u16") false 16 := List.Mem.tail _ (List.Mem.tail _ (List.Mem.tail _ (List.Mem.tail _ (List.Mem.tail _ (List.Mem.head _)))))
theorem ik7 : IsKind (Str.ofString "u32") false 32 := List.Mem.tail _ (List.Mem.tail _ (List.Mem.tail _ (List.Mem.tail _ (List.Mem.tail _ (List.Mem.tail _ (List.Mem.head _))))))
theorem ik8 : IsKind (Str.ofString "u64") false 64 := List.Mem.tail _ (List.Mem.tail _ (List.Mem.tail _ (List.Mem.tail _ (List.Mem.tail _ (List.Mem.tail _ (List.Mem.tail _ (List.Mem.head _)))))))
theorem ik9 : IsKind (Str.ofString "usize") false 64 := List.Mem.tail _ (List.Mem.tail _ (List.Mem.tail _ (List.Mem.tail _ (List.Mem.tail _ (List.Mem.tail _ (List.Mem.tail _ (List.Mem.tail _ (List.Mem.head _))))))))
theorem hns_of {a : Int} {ns : List Int} (h : ¬ a < (ns.length : Int)) (ha : a = 63) : ns.length ≤ 63 := by omega
theorem kbnd {k : Str} {sg : Bool} {n : Nat} (h : IsKind k sg n) : -(2 ^ 64) ≤ lowK sg n ∧ lowK sg n ≤ highK sg n ∧ highK sg n ≤ 2 ^ 64 :=
  ⟨(lowK_lo h.bits).1, Int.le_trans (lowK_lo h.bits).2 (highK_hi h.bits).1, (highK_hi h.bits).2⟩
theorem int4 {r : Value} {a b c d : Int} {ta tb tc td : Tok} (h : r ∈ [Value.int a ta, .int b tb, .int c tc, .int d td]) : ∃ (z : Int) (t : Tok), r = .int z t := by
  simp only [List.mem_cons, List.not_mem_nil, or_false] at h
  rcases h with rfl | rfl | rfl | rfl <;> exact ⟨_, _, rfl⟩
theorem kind9 {r : Value} {t1 t2 t3 t4 t5 t6 t7 t8 t9 : Tok} (h : r ∈ [Value.str (Str.ofString "i8") t1, Value.str (Str.ofString "i16") t2, Value.str (Str.ofString "i32") t3, Value.str (Str.ofString "i64") t4, Value.str (Str.ofString "u8") t5, Value.str (Str.ofString "u16") t6, Value.str (Str.ofString "u32") t7, Value.str (Str.ofString "u64") t8, Value.str (Str.ofString "usize") t9]) : ∃ (k : Str) (t : Tok) (sg : Bool) (n : Nat), r = .str k t ∧ IsKind k sg n := by
  simp only [List.mem_cons, List.not_mem_nil, or_false] at h
  rcases h with rfl | rfl | rfl | rfl | rfl | rfl | rfl | rfl | rfl
  · exact ⟨_, _, _, _, rfl, ik1⟩
  · exact ⟨_, _, _, _, rfl, ik2⟩
  · exact ⟨_, _, _, _, rfl, ik3⟩
  · exact ⟨_, _, _, _, rfl, ik4⟩
  · exact ⟨_, _, _, _, rfl, ik5⟩
  · exact ⟨_, _, _, _, rfl, ik6⟩
  · exact ⟨_, _, _, _, rfl, ik7⟩
  · exact ⟨_, _, _, _, rfl, ik8⟩
  · exact ⟨_, _, _, _, rfl, ik9⟩
theorem nt {h₀ h : Heap} {L : Addr} {p : Addr × Obj} {l : Led} (N : News h₀ L h (p :: l)) : News h₀ L h l := fun q hq => N q (.tail _ hq)
theorem tail2 {h₀ h : Heap} {L a b : Addr} {o p : Obj} (N : News h₀ L h [(a, o), (b, p)]) : News h₀ L h [(a, o), (b, p)] := N
section
variable {prog : Program} {w : World} {A : Around} {E : Value → Shared → Prop} {s : Shared} {env : Env} {h₀ : Heap} {target : PySem.Expr} {body : List Stmt} {Q : Flow → Shared → Prop}
/-- the law's loops: the source's row may change in a turn, the others stand -/
theorem rest_src {I lk lS : Addr} {lo o₀ : Obj} {ps : Array Value} {keep : Led} {vs : List Value} {m₀ : Str → Option Value}
    (turn : ∀ v ∈ vs, ∀ (m : Str → Option Value) (o : Obj), m (Str.ofString "source") = some (.ref lS) → IsSrc o → ∀ h tk it, it.cls = .type "list_iterator" → Fr h₀ env.locals h m → News h₀ env.locals h [(I, it), (lk, lo), (lS, o), (218, tabObj ps)] →
      wpAny (model prog w) A (assign target env v) (fun _ s₂ => wpAny (model prog w) A (execs body env) (UnrPostW h₀ env.locals { s with heap := h, toks := tk } [(I, it)] (fun m' n' => SubL keep n' ∧ (m' (Str.ofString "source") = some (.ref lS) ∧ ∃ o, IsSrc o ∧ n' = [(lk, lo), (lS, o), (218, tabObj ps)])) Q) E s₂) E { s with heap := h, toks := tk })
    (done : ∀ (m : Str → Option Value) (o : Obj), m (Str.ofString "source") = some (.ref lS) → IsSrc o → ∀ h tk, Fr h₀ env.locals h m → News h₀ env.locals h [(lk, lo), (lS, o), (218, tabObj ps)] → Q .next { s with heap := h, toks := tk })
    (hm : m₀ (Str.ofString "source") = some (.ref lS)) (ho : IsSrc o₀) :
    ItemsRest prog w A E h₀ env target body Q s [(I, "list_iterator")] keep (vs.map .val) m₀ [(lk, lo), (lS, o₀), (218, tabObj ps)] :=
  rest_ind (fun m news => m (Str.ofString "source") = some (.ref lS) ∧ ∃ o, IsSrc o ∧ news = [(lk, lo), (lS, o), (218, tabObj ps)]) (fun v hv m news hi h tk F => by
      obtain ⟨hp, o, ho, rfl⟩ := hi
      exact fun it hit N => turn v hv m o hp ho h tk it hit F N) (fun m news hi h tk F N => by
      obtain ⟨hp, o, ho, rfl⟩ := hi
      exact done m o hp ho h tk F N) vs (fun _ h => h) _ _ ⟨hm, _, ho, rfl⟩
end
local macro_rules | `(tactic| walk_at "call ref") => `(tactic| (k_here; (with_reducible show wpAny _ _ (PySem.call (Value.ref 146) _) _ _ _); k_dflt (refine halt ?_)))
local macro_rules | `(tactic| walk_at "call ref") => `(tactic| (k_here; (with_reducible show wpAny _ _ (PySem.call (Value.ref 139) _) _ _ _); k_dflt (refine' cmp1I_meets ?zv _ _ _ _ _ _ _ _ _ _ _ _ _ _ _ _ _ ?zB ?zF ?zX ?zN ?zT ?zk ?zd ?zu ?_; (case zB => k_asm); (case zF => k_asm); (case zX => k_asm); (case zN => k_asm); (case zT => k_asm); (case zk => first | exact rfl | assumption); (case zv => first | assumption | exact .eq | exact .ne | exact .lt | exact .le | exact .gt | exact .ge); (case zd => ktr_room); (case zu => ktr_units)); rintro _ _ h' tk' ⟨e1', e2'⟩ F' N'; subst e1'; subst e2'; (try dsimp only at N'); (try k_sweep); (try dsimp only); (try k_fold)))
local macro_rules | `(tactic| walk_at "call ref") => `(tactic| (k_here; (with_reducible show wpAny _ _ (PySem.call (Value.ref 139) _) _ _ _); k_dflt (refine' cmp1B_meets ?zv _ _ _ _ _ _ _ _ _ _ _ _ _ _ _ _ _ ?zB ?zF ?zX ?zN ?zT ?zk ?zd ?zu ?_; (case zB => k_asm); (case zF => k_asm); (case zX => k_asm); (case zN => k_asm); (case zT => k_asm); (case zk => first | exact rfl | assumption); (case zv => first | assumption | exact .eq | exact .ne | exact .lt | exact .le | exact .gt | exact .ge); (case zd => ktr_room); (case zu => ktr_units)); rintro _ _ h' tk' ⟨e1', e2'⟩ F' N'; subst e1'; subst e2'; (try dsimp only at N'); (try k_sweep); (try dsimp only); (try k_fold)))
local macro_rules | `(tactic| walk_at "call ref") => `(tactic| (k_here; (with_reducible show wpAny _ _ (PySem.call (Value.ref 62) _) _ _ _); k_dflt (refine' least_meets ?zv _ _ _ _ _ _ _ _ _ _ _ _ _ _ _ _ _ ?zB ?zF ?zX ?zN ?zT ?zk ?zd ?zu ?_; (case zB => k_asm); (case zF => k_asm); (case zX => k_asm); (case zN => k_asm); (case zT => k_asm); (case zk => first | exact rfl | assumption); (case zv => first | assumption | exact ik1 | exact ik2 | exact ik3 | exact ik4 | exact ik5 | exact ik6 | exact ik7 | exact ik8 | exact ik9); (case zd => ktr_room); (case zu => ktr_units)); rintro _ _ h' tk' ⟨e1', t', e2'⟩ F' N'; subst e1'; subst e2'; (try dsimp only at N'); (try k_sweep); (try dsimp only); (try k_fold)))
local macro_rules | `(tactic| walk_at "call ref") => `(tactic| (k_here; (with_reducible show wpAny _ _ (PySem.call (Value.ref 69) _) _ _ _); k_dflt (refine' greatest_meets ?zv _ _ _ _ _ _ _ _ _ _ _ _ _ _ _ _ _ ?zB ?zF ?zX ?zN ?zT ?zk ?zd ?zu ?_; (case zB => k_asm); (case zF => k_asm); (case zX => k_asm); (case zN => k_asm); (case zT => k_asm); (case zk => first | exact rfl | assumption); (case zv => first | assumption | exact ik1 | exact ik2 | exact ik3 | exact ik4 | exact ik5 | exact ik6 | exact ik7 | exact ik8 | exact ik9); (case zd => ktr_room); (case zu => ktr_units)); rintro _ _ h' tk' ⟨e1', t', e2'⟩ F' N'; subst e1'; subst e2'; (try dsimp only at N'); (try k_sweep); (try dsimp only); (try k_fold)))
local macro_rules | `(tactic| walk_at "call ref") => `(tactic| (k_here; (with_reducible show wpAny _ _ (PySem.call (Value.ref 174) _) _ _ _); k_dflt (refine' bounds_meets ?zv _ _ _ _ _ _ _ _ _ _ _ _ _ _ _ _ _ ?zB ?zF ?zX ?zN ?zT ?zk ?zd ?zu ?_; (case zB => k_asm); (case zF => k_asm); (case zX => k_asm); (case zN => k_asm); (case zT => k_asm); (case zk => first | exact rfl | assumption); (case zv => first | assumption | exact ik1 | exact ik2 | exact ik3 | exact ik4 | exact ik5 | exact ik6 | exact ik7 | exact ik8 | exact ik9); (case zd => ktr_room); (case zu => ktr_units)); rintro _ _ h' tk' ⟨q', t1', t2', t3', e1', e2', l1'⟩ F' N'; subst e1'; subst e2'; (try k_lt l1'); (try dsimp only at N'); (try k_sweep); (try dsimp only); (try k_fold)))
local macro_rules | `(tactic| walk_at "call ref") => `(tactic| (k_here; (with_reducible show wpAny _ _ (PySem.call (Value.ref 153) _) _ _ _); k_dflt (refine' take_upd ?zU ?zo ?zt _ _ _ _ _ _ _ _ _ _ _ _ _ _ _ _ _ ?zB ?zF ?zX ?zN ?zT ?zk ?zd ?zu ?_; (case zB => k_asm); (case zF => k_asm); (case zX => k_asm); (case zN => k_asm); (case zT => k_asm); (case zk => first | exact rfl | assumption); (case zU => k_updF); (case zo => assumption); (case zt => decide); (case zd => ktr_room); (case zu => ktr_units)); rintro _ _ h' tk' ⟨o', hO', e1', k', t', e2', hk0', hk1'⟩ F' N'; subst e1'; subst e2'; (try dsimp only at N'); (try k_sweep); (try dsimp only); (try k_fold)))
local macro_rules | `(tactic| walk_at "call ref") => `(tactic| (k_here; (with_reducible show wpAny _ _ (PySem.call (Value.ref 181) _) _ _ _); k_dflt (refine' number_upd ?zU ?zo ?zv _ _ _ _ _ _ _ _ _ _ _ _ _ _ _ _ _ ?zB ?zF ?zX ?zN ?zT ?zk ?zd ?zu ?_; (case zB => k_asm); (case zF => k_asm); (case zX => k_asm); (case zN => k_asm); (case zT => k_asm); (case zk => first | exact rfl | assumption); (case zU => k_updF); (case zo => assumption); (case zv => first | exact kbnd (by assumption) | exact kbnd ik1 | exact kbnd ik2 | exact kbnd ik3 | exact kbnd ik4 | exact kbnd ik5 | exact kbnd ik6 | exact kbnd ik7 | exact kbnd ik8 | exact kbnd ik9); (case zd => ktr_room); (case zu => ktr_units)); rintro _ _ h' tk' ⟨o', hO', e1', k', t', e2', hk0', hk1'⟩ F' N'; subst e1'; subst e2'; (try dsimp only at N'); (try k_sweep); (try dsimp only); (try k_fold)))
local macro_rules | `(tactic| walk_at "call ref") => `(tactic| (k_here; (with_reducible show wpAny _ _ (PySem.call (Value.ref 160) _) _ _ _); k_dflt (refine' one_upd ?zU ?zo ?zv ?zn ?zm _ _ _ _ _ _ _ _ _ _ _ _ _ _ _ _ _ ?zB ?zF ?zX ?zN ?zT ?zk ?zd ?zu ?_; (case zB => k_asm); (case zF => k_asm); (case zX => k_asm); (case zN => k_asm); (case zT => k_asm); (case zk => first | exact rfl | assumption); (case zU => k_updF); (case zo => assumption); (case zm => k_mem); (case zv => exact ⟨Nat.le_of_ble_eq_true rfl, Nat.le_of_ble_eq_true rfl⟩); (case zn => k_ne); (case zd => ktr_room); (case zu => ktr_units)); rintro _ _ h' tk' ⟨o', hO', e1', hV'⟩ F' N'; subst e1'; first | (obtain ⟨z', tz', e4'⟩ := int4 hV'; subst e4') | (obtain ⟨kk', tk9', sg', nb', e4', hK'⟩ := kind9 hV'; subst e4'); (try dsimp only at N'); (try k_sweep); (try dsimp only); (try k_fold)))
local macro_rules | `(tactic| walk_at "call ref") => `(tactic| (k_here; (with_reducible show wpAny _ _ (PySem.call (Value.ref 202) _) _ _ _); k_dflt (refine' cmpI_meets  _ _ _ _ _ _ _ _ _ _ _ _ _ _ _ _ _ ?zB ?zF ?zX ?zN ?zT ?zk ?zd ?zu ?_; (case zB => k_asm); (case zF => k_asm); (case zX => k_asm); (case zN => (rename News _ _ _ _ => nN; (first | exact nN | exact nt nN | exact nt (nt nN) | exact nt (nt (nt nN)) | exact nt (nt (nt (nt nN))) | exact nt (nt (nt (nt (nt nN)))) | exact nt (nt (nt (nt (nt (nt nN))))) | exact nt (nt (nt (nt (nt (nt (nt nN)))))) | exact nt (nt (nt (nt (nt (nt (nt (nt nN))))))) | exact nt (nt (nt (nt (nt (nt (nt (nt (nt nN)))))))) | exact nt (nt (nt (nt (nt (nt (nt (nt (nt (nt nN))))))))) | exact nt (nt (nt (nt (nt (nt (nt (nt (nt (nt (nt nN)))))))))) | exact nt (nt (nt (nt (nt (nt (nt (nt (nt (nt (nt (nt nN))))))))))) | exact nt (nt (nt (nt (nt (nt (nt (nt (nt (nt (nt (nt (nt nN)))))))))))) | exact nt (nt (nt (nt (nt (nt (nt (nt (nt (nt (nt (nt (nt (nt nN))))))))))))) | exact nt (nt (nt (nt (nt (nt (nt (nt (nt (nt (nt (nt (nt (nt (nt nN)))))))))))))) | exact nt (nt (nt (nt (nt (nt (nt (nt (nt (nt (nt (nt (nt (nt (nt (nt nN))))))))))))))) | exact nt (nt (nt (nt (nt (nt (nt (nt (nt (nt (nt (nt (nt (nt (nt (nt (nt nN)))))))))))))))) | exact nt (nt (nt (nt (nt (nt (nt (nt (nt (nt (nt (nt (nt (nt (nt (nt (nt (nt nN))))))))))))))))) | exact nt (nt (nt (nt (nt (nt (nt (nt (nt (nt (nt (nt (nt (nt (nt (nt (nt (nt (nt nN)))))))))))))))))) | exact nt (nt (nt (nt (nt (nt (nt (nt (nt (nt (nt (nt (nt (nt (nt (nt (nt (nt (nt (nt nN))))))))))))))))))) | exact nt (nt (nt (nt (nt (nt (nt (nt (nt (nt (nt (nt (nt (nt (nt (nt (nt (nt (nt (nt (nt nN)))))))))))))))))))) | exact nt (nt (nt (nt (nt (nt (nt (nt (nt (nt (nt (nt (nt (nt (nt (nt (nt (nt (nt (nt (nt (nt nN))))))))))))))))))))) | exact nt (nt (nt (nt (nt (nt (nt (nt (nt (nt (nt (nt (nt (nt (nt (nt (nt (nt (nt (nt (nt (nt (nt nN)))))))))))))))))))))) | exact nt (nt (nt (nt (nt (nt (nt (nt (nt (nt (nt (nt (nt (nt (nt (nt (nt (nt (nt (nt (nt (nt (nt (nt nN))))))))))))))))))))))) | exact nt (nt (nt (nt (nt (nt (nt (nt (nt (nt (nt (nt (nt (nt (nt (nt (nt (nt (nt (nt (nt (nt (nt (nt (nt nN)))))))))))))))))))))))) | exact nt (nt (nt (nt (nt (nt (nt (nt (nt (nt (nt (nt (nt (nt (nt (nt (nt (nt (nt (nt (nt (nt (nt (nt (nt (nt nN))))))))))))))))))))))))) | exact nt (nt (nt (nt (nt (nt (nt (nt (nt (nt (nt (nt (nt (nt (nt (nt (nt (nt (nt (nt (nt (nt (nt (nt (nt (nt (nt nN)))))))))))))))))))))))))) | exact nt (nt (nt (nt (nt (nt (nt (nt (nt (nt (nt (nt (nt (nt (nt (nt (nt (nt (nt (nt (nt (nt (nt (nt (nt (nt (nt (nt nN))))))))))))))))))))))))))) | exact nt (nt (nt (nt (nt (nt (nt (nt (nt (nt (nt (nt (nt (nt (nt (nt (nt (nt (nt (nt (nt (nt (nt (nt (nt (nt (nt (nt (nt nN)))))))))))))))))))))))))))) | exact nt (nt (nt (nt (nt (nt (nt (nt (nt (nt (nt (nt (nt (nt (nt (nt (nt (nt (nt (nt (nt (nt (nt (nt (nt (nt (nt (nt (nt (nt nN))))))))))))))))))))))))))))) | exact nt (nt (nt (nt (nt (nt (nt (nt (nt (nt (nt (nt (nt (nt (nt (nt (nt (nt (nt (nt (nt (nt (nt (nt (nt (nt (nt (nt (nt (nt (nt nN)))))))))))))))))))))))))))))) | exact nt (nt (nt (nt (nt (nt (nt (nt (nt (nt (nt (nt (nt (nt (nt (nt (nt (nt (nt (nt (nt (nt (nt (nt (nt (nt (nt (nt (nt (nt (nt (nt nN))))))))))))))))))))))))))))))) | exact nt (nt (nt (nt (nt (nt (nt (nt (nt (nt (nt (nt (nt (nt (nt (nt (nt (nt (nt (nt (nt (nt (nt (nt (nt (nt (nt (nt (nt (nt (nt (nt (nt nN)))))))))))))))))))))))))))))))) | exact nt (nt (nt (nt (nt (nt (nt (nt (nt (nt (nt (nt (nt (nt (nt (nt (nt (nt (nt (nt (nt (nt (nt (nt (nt (nt (nt (nt (nt (nt (nt (nt (nt (nt nN))))))))))))))))))))))))))))))))) | exact nt (nt (nt (nt (nt (nt (nt (nt (nt (nt (nt (nt (nt (nt (nt (nt (nt (nt (nt (nt (nt (nt (nt (nt (nt (nt (nt (nt (nt (nt (nt (nt (nt (nt (nt nN)))))))))))))))))))))))))))))))))) | exact nt (nt (nt (nt (nt (nt (nt (nt (nt (nt (nt (nt (nt (nt (nt (nt (nt (nt (nt (nt (nt (nt (nt (nt (nt (nt (nt (nt (nt (nt (nt (nt (nt (nt (nt (nt nN))))))))))))))))))))))))))))))))))) | exact nt (nt (nt (nt (nt (nt (nt (nt (nt (nt (nt (nt (nt (nt (nt (nt (nt (nt (nt (nt (nt (nt (nt (nt (nt (nt (nt (nt (nt (nt (nt (nt (nt (nt (nt (nt (nt nN)))))))))))))))))))))))))))))))))))) | exact nt (nt (nt (nt (nt (nt (nt (nt (nt (nt (nt (nt (nt (nt (nt (nt (nt (nt (nt (nt (nt (nt (nt (nt (nt (nt (nt (nt (nt (nt (nt (nt (nt (nt (nt (nt (nt (nt nN))))))))))))))))))))))))))))))))))))) | exact nt (nt (nt (nt (nt (nt (nt (nt (nt (nt (nt (nt (nt (nt (nt (nt (nt (nt (nt (nt (nt (nt (nt (nt (nt (nt (nt (nt (nt (nt (nt (nt (nt (nt (nt (nt (nt (nt (nt nN)))))))))))))))))))))))))))))))))))))) | exact nt (nt (nt (nt (nt (nt (nt (nt (nt (nt (nt (nt (nt (nt (nt (nt (nt (nt (nt (nt (nt (nt (nt (nt (nt (nt (nt (nt (nt (nt (nt (nt (nt (nt (nt (nt (nt (nt (nt (nt nN))))))))))))))))))))))))))))))))))))))) | exact nt (nt (nt (nt (nt (nt (nt (nt (nt (nt (nt (nt (nt (nt (nt (nt (nt (nt (nt (nt (nt (nt (nt (nt (nt (nt (nt (nt (nt (nt (nt (nt (nt (nt (nt (nt (nt (nt (nt (nt (nt nN)))))))))))))))))))))))))))))))))))))))) | exact nt (nt (nt (nt (nt (nt (nt (nt (nt (nt (nt (nt (nt (nt (nt (nt (nt (nt (nt (nt (nt (nt (nt (nt (nt (nt (nt (nt (nt (nt (nt (nt (nt (nt (nt (nt (nt (nt (nt (nt (nt (nt nN))))))))))))))))))))))))))))))))))))))))) | exact nt (nt (nt (nt (nt (nt (nt (nt (nt (nt (nt (nt (nt (nt (nt (nt (nt (nt (nt (nt (nt (nt (nt (nt (nt (nt (nt (nt (nt (nt (nt (nt (nt (nt (nt (nt (nt (nt (nt (nt (nt (nt (nt nN)))))))))))))))))))))))))))))))))))))))))) | exact nt (nt (nt (nt (nt (nt (nt (nt (nt (nt (nt (nt (nt (nt (nt (nt (nt (nt (nt (nt (nt (nt (nt (nt (nt (nt (nt (nt (nt (nt (nt (nt (nt (nt (nt (nt (nt (nt (nt (nt (nt (nt (nt (nt nN))))))))))))))))))))))))))))))))))))))))))) | exact nt (nt (nt (nt (nt (nt (nt (nt (nt (nt (nt (nt (nt (nt (nt (nt (nt (nt (nt (nt (nt (nt (nt (nt (nt (nt (nt (nt (nt (nt (nt (nt (nt (nt (nt (nt (nt (nt (nt (nt (nt (nt (nt (nt (nt nN)))))))))))))))))))))))))))))))))))))))))))) | exact nt (nt (nt (nt (nt (nt (nt (nt (nt (nt (nt (nt (nt (nt (nt (nt (nt (nt (nt (nt (nt (nt (nt (nt (nt (nt (nt (nt (nt (nt (nt (nt (nt (nt (nt (nt (nt (nt (nt (nt (nt (nt (nt (nt (nt (nt nN))))))))))))))))))))))))))))))))))))))))))))) | exact nt (nt (nt (nt (nt (nt (nt (nt (nt (nt (nt (nt (nt (nt (nt (nt (nt (nt (nt (nt (nt (nt (nt (nt (nt (nt (nt (nt (nt (nt (nt (nt (nt (nt (nt (nt (nt (nt (nt (nt (nt (nt (nt (nt (nt (nt (nt nN)))))))))))))))))))))))))))))))))))))))))))))) | exact nt (nt (nt (nt (nt (nt (nt (nt (nt (nt (nt (nt (nt (nt (nt (nt (nt (nt (nt (nt (nt (nt (nt (nt (nt (nt (nt (nt (nt (nt (nt (nt (nt (nt (nt (nt (nt (nt (nt (nt (nt (nt (nt (nt (nt (nt (nt (nt nN)))))))))))))))))))))))))))))))))))))))))))))))))); (case zT => k_asm); (case zk => first | exact rfl | assumption); (case zd => ktr_room); (case zu => ktr_units)); rintro _ _ h' tk' ⟨e1', e2'⟩ F' N'; subst e1'; subst e2'; (try dsimp only at N'); (try k_sweep); (try dsimp only); (try k_fold)))
local macro_rules | `(tactic| walk_at "call ref") => `(tactic| (k_here; (with_reducible show wpAny _ _ (PySem.call (Value.ref 202) _) _ _ _); k_dflt (refine' cmpB_meets  _ _ _ _ _ _ _ _ _ _ _ _ _ _ _ _ _ ?zB ?zF ?zX ?zN ?zT ?zk ?zd ?zu ?_; (case zB => k_asm); (case zF => k_asm); (case zX => k_asm); (case zN => (rename News _ _ _ _ => nN; (first | exact nN | exact nt nN | exact nt (nt nN) | exact nt (nt (nt nN)) | exact nt (nt (nt (nt nN))) | exact nt (nt (nt (nt (nt nN)))) | exact nt (nt (nt (nt (nt (nt nN))))) | exact nt (nt (nt (nt (nt (nt (nt nN)))))) | exact nt (nt (nt (nt (nt (nt (nt (nt nN))))))) | exact nt (nt (nt (nt (nt (nt (nt (nt (nt nN)))))))) | exact nt (nt (nt (nt (nt (nt (nt (nt (nt (nt nN))))))))) | exact nt (nt (nt (nt (nt (nt (nt (nt (nt (nt (nt nN)))))))))) | exact nt (nt (nt (nt (nt (nt (nt (nt (nt (nt (nt (nt nN))))))))))) | exact nt (nt (nt (nt (nt (nt (nt (nt (nt (nt (nt (nt (nt nN)))))))))))) | exact nt (nt (nt (nt (nt (nt (nt (nt (nt (nt (nt (nt (nt (nt nN))))))))))))) | exact nt (nt (nt (nt (nt (nt (nt (nt (nt (nt (nt (nt (nt (nt (nt nN)))))))))))))) | exact nt (nt (nt (nt (nt (nt (nt (nt (nt (nt (nt (nt (nt (nt (nt (nt nN))))))))))))))) | exact nt (nt (nt (nt (nt (nt (nt (nt (nt (nt (nt (nt (nt (nt (nt (nt (nt nN)))))))))))))))) | exact nt (nt (nt (nt (nt (nt (nt (nt (nt (nt (nt (nt (nt (nt (nt (nt (nt (nt nN))))))))))))))))) | exact nt (nt (nt (nt (nt (nt (nt (nt (nt (nt (nt (nt (nt (nt (nt (nt (nt (nt (nt nN)))))))))))))))))) | exact nt (nt (nt (nt (nt (nt (nt (nt (nt (nt (nt (nt (nt (nt (nt (nt (nt (nt (nt (nt nN))))))))))))))))))) | exact nt (nt (nt (nt (nt (nt (nt (nt (nt (nt (nt (nt (nt (nt (nt (nt (nt (nt (nt (nt (nt nN)))))))))))))))))))) | exact nt (nt (nt (nt (nt (nt (nt (nt (nt (nt (nt (nt (nt (nt (nt (nt (nt (nt (nt (nt (nt (nt nN))))))))))))))))))))) | exact nt (nt (nt (nt (nt (nt (nt (nt (nt (nt (nt (nt (nt (nt (nt (nt (nt (nt (nt (nt (nt (nt (nt nN)))))))))))))))))))))) | exact nt (nt (nt (nt (nt (nt (nt (nt (nt (nt (nt (nt (nt (nt (nt (nt (nt (nt (nt (nt (nt (nt (nt (nt nN))))))))))))))))))))))) | exact nt (nt (nt (nt (nt (nt (nt (nt (nt (nt (nt (nt (nt (nt (nt (nt (nt (nt (nt (nt (nt (nt (nt (nt (nt nN)))))))))))))))))))))))) | exact nt (nt (nt (nt (nt (nt (nt (nt (nt (nt (nt (nt (nt (nt (nt (nt (nt (nt (nt (nt (nt (nt (nt (nt (nt (nt nN))))))))))))))))))))))))) | exact nt (nt (nt (nt (nt (nt (nt (nt (nt (nt (nt (nt (nt (nt (nt (nt (nt (nt (nt (nt (nt (nt (nt (nt (nt (nt (nt nN)))))))))))))))))))))))))) | exact nt (nt (nt (nt (nt (nt (nt (nt (nt (nt (nt (nt (nt (nt (nt (nt (nt (nt (nt (nt (nt (nt (nt (nt (nt (nt (nt (nt nN))))))))))))))))))))))))))) | exact nt (nt (nt (nt (nt (nt (nt (nt (nt (nt (nt (nt (nt (nt (nt (nt (nt (nt (nt (nt (nt (nt (nt (nt (nt (nt (nt (nt (nt nN)))))))))))))))))))))))))))) | exact nt (nt (nt (nt (nt (nt (nt (nt (nt (nt (nt (nt (nt (nt (nt (nt (nt (nt (nt (nt (nt (nt (nt (nt (nt (nt (nt (nt (nt (nt nN))))))))))))))))))))))))))))) | exact nt (nt (nt (nt (nt (nt (nt (nt (nt (nt (nt (nt (nt (nt (nt (nt (nt (nt (nt (nt (nt (nt (nt (nt (nt (nt (nt (nt (nt (nt (nt nN)))))))))))))))))))))))))))))) | exact nt (nt (nt (nt (nt (nt (nt (nt (nt (nt (nt (nt (nt (nt (nt (nt (nt (nt (nt (nt (nt (nt (nt (nt (nt (nt (nt (nt (nt (nt (nt (nt nN))))))))))))))))))))))))))))))) | exact nt (nt (nt (nt (nt (nt (nt (nt (nt (nt (nt (nt (nt (nt (nt (nt (nt (nt (nt (nt (nt (nt (nt (nt (nt (nt (nt (nt (nt (nt (nt (nt (nt nN)))))))))))))))))))))))))))))))) | exact nt (nt (nt (nt (nt (nt (nt (nt (nt (nt (nt (nt (nt (nt (nt (nt (nt (nt (nt (nt (nt (nt (nt (nt (nt (nt (nt (nt (nt (nt (nt (nt (nt (nt nN))))))))))))))))))))))))))))))))) | exact nt (nt (nt (nt (nt (nt (nt (nt (nt (nt (nt (nt (nt (nt (nt (nt (nt (nt (nt (nt (nt (nt (nt (nt (nt (nt (nt (nt (nt (nt (nt (nt (nt (nt (nt nN)))))))))))))))))))))))))))))))))) | exact nt (nt (nt (nt (nt (nt (nt (nt (nt (nt (nt (nt (nt (nt (nt (nt (nt (nt (nt (nt (nt (nt (nt (nt (nt (nt (nt (nt (nt (nt (nt (nt (nt (nt (nt (nt nN))))))))))))))))))))))))))))))))))) | exact nt (nt (nt (nt (nt (nt (nt (nt (nt (nt (nt (nt (nt (nt (nt (nt (nt (nt (nt (nt (nt (nt (nt (nt (nt (nt (nt (nt (nt (nt (nt (nt (nt (nt (nt (nt (nt nN)))))))))))))))))))))))))))))))))))) | exact nt (nt (nt (nt (nt (nt (nt (nt (nt (nt (nt (nt (nt (nt (nt (nt (nt (nt (nt (nt (nt (nt (nt (nt (nt (nt (nt (nt (nt (nt (nt (nt (nt (nt (nt (nt (nt (nt nN))))))))))))))))))))))))))))))))))))) | exact nt (nt (nt (nt (nt (nt (nt (nt (nt (nt (nt (nt (nt (nt (nt (nt (nt (nt (nt (nt (nt (nt (nt (nt (nt (nt (nt (nt (nt (nt (nt (nt (nt (nt (nt (nt (nt (nt (nt nN)))))))))))))))))))))))))))))))))))))) | exact nt (nt (nt (nt (nt (nt (nt (nt (nt (nt (nt (nt (nt (nt (nt (nt (nt (nt (nt (nt (nt (nt (nt (nt (nt (nt (nt (nt (nt (nt (nt (nt (nt (nt (nt (nt (nt (nt (nt (nt nN))))))))))))))))))))))))))))))))))))))) | exact nt (nt (nt (nt (nt (nt (nt (nt (nt (nt (nt (nt (nt (nt (nt (nt (nt (nt (nt (nt (nt (nt (nt (nt (nt (nt (nt (nt (nt (nt (nt (nt (nt (nt (nt (nt (nt (nt (nt (nt (nt nN)))))))))))))))))))))))))))))))))))))))) | exact nt (nt (nt (nt (nt (nt (nt (nt (nt (nt (nt (nt (nt (nt (nt (nt (nt (nt (nt (nt (nt (nt (nt (nt (nt (nt (nt (nt (nt (nt (nt (nt (nt (nt (nt (nt (nt (nt (nt (nt (nt (nt nN))))))))))))))))))))))))))))))))))))))))) | exact nt (nt (nt (nt (nt (nt (nt (nt (nt (nt (nt (nt (nt (nt (nt (nt (nt (nt (nt (nt (nt (nt (nt (nt (nt (nt (nt (nt (nt (nt (nt (nt (nt (nt (nt (nt (nt (nt (nt (nt (nt (nt (nt nN)))))))))))))))))))))))))))))))))))))))))) | exact nt (nt (nt (nt (nt (nt (nt (nt (nt (nt (nt (nt (nt (nt (nt (nt (nt (nt (nt (nt (nt (nt (nt (nt (nt (nt (nt (nt (nt (nt (nt (nt (nt (nt (nt (nt (nt (nt (nt (nt (nt (nt (nt (nt nN))))))))))))))))))))))))))))))))))))))))))) | exact nt (nt (nt (nt (nt (nt (nt (nt (nt (nt (nt (nt (nt (nt (nt (nt (nt (nt (nt (nt (nt (nt (nt (nt (nt (nt (nt (nt (nt (nt (nt (nt (nt (nt (nt (nt (nt (nt (nt (nt (nt (nt (nt (nt (nt nN)))))))))))))))))))))))))))))))))))))))))))) | exact nt (nt (nt (nt (nt (nt (nt (nt (nt (nt (nt (nt (nt (nt (nt (nt (nt (nt (nt (nt (nt (nt (nt (nt (nt (nt (nt (nt (nt (nt (nt (nt (nt (nt (nt (nt (nt (nt (nt (nt (nt (nt (nt (nt (nt (nt nN))))))))))))))))))))))))))))))))))))))))))))) | exact nt (nt (nt (nt (nt (nt (nt (nt (nt (nt (nt (nt (nt (nt (nt (nt (nt (nt (nt (nt (nt (nt (nt (nt (nt (nt (nt (nt (nt (nt (nt (nt (nt (nt (nt (nt (nt (nt (nt (nt (nt (nt (nt (nt (nt (nt (nt nN)))))))))))))))))))))))))))))))))))))))))))))) | exact nt (nt (nt (nt (nt (nt (nt (nt (nt (nt (nt (nt (nt (nt (nt (nt (nt (nt (nt (nt (nt (nt (nt (nt (nt (nt (nt (nt (nt (nt (nt (nt (nt (nt (nt (nt (nt (nt (nt (nt (nt (nt (nt (nt (nt (nt (nt (nt nN)))))))))))))))))))))))))))))))))))))))))))))))))); (case zT => k_asm); (case zk => first | exact rfl | assumption); (case zd => ktr_room); (case zu => ktr_units)); rintro _ _ h' tk' ⟨e1', e2'⟩ F' N'; subst e1'; subst e2'; (try dsimp only at N'); (try k_sweep); (try dsimp only); (try k_fold)))
local macro_rules | `(tactic| walk_at "call ref") => `(tactic| (k_here; (first | (with_reducible show wpAny _ _ (PySem.call (Value.ref 209) _) _ _ _) | (with_reducible show wpAny _ _ (PySem.call (Value.ref 223) _) _ _ _)); k_dflt (refine halt ?_)))
local macro_rules | `(tactic| walk_at "eval Name") => `(tactic| (k_here; k_dflt (refine' nameX_L ?nF ?nv ?_ ?na ?nb; (case nF => k_asm); (case na => rfl); (case nb => rfl); (case nv => ((try dsimp only); (iterate 9 (try (refine (if_neg (by decide +kernel)).trans ?_))); assumption)); k_whole)))
local macro_rules | `(tactic| walk_at "exec For Name List cons nil") => `(tactic| (k_here; (rename News _ _ _ _ => nM); (have nM2 := tail2 (by (first | exact nM | exact nt nM | exact nt (nt nM) | exact nt (nt (nt nM)) | exact nt (nt (nt (nt nM))) | exact nt (nt (nt (nt (nt nM)))) | exact nt (nt (nt (nt (nt (nt nM))))) | exact nt (nt (nt (nt (nt (nt (nt nM)))))) | exact nt (nt (nt (nt (nt (nt (nt (nt nM))))))) | exact nt (nt (nt (nt (nt (nt (nt (nt (nt nM)))))))) | exact nt (nt (nt (nt (nt (nt (nt (nt (nt (nt nM))))))))) | exact nt (nt (nt (nt (nt (nt (nt (nt (nt (nt (nt nM)))))))))) | exact nt (nt (nt (nt (nt (nt (nt (nt (nt (nt (nt (nt nM))))))))))) | exact nt (nt (nt (nt (nt (nt (nt (nt (nt (nt (nt (nt (nt nM)))))))))))) | exact nt (nt (nt (nt (nt (nt (nt (nt (nt (nt (nt (nt (nt (nt nM))))))))))))) | exact nt (nt (nt (nt (nt (nt (nt (nt (nt (nt (nt (nt (nt (nt (nt nM)))))))))))))) | exact nt (nt (nt (nt (nt (nt (nt (nt (nt (nt (nt (nt (nt (nt (nt (nt nM))))))))))))))) | exact nt (nt (nt (nt (nt (nt (nt (nt (nt (nt (nt (nt (nt (nt (nt (nt (nt nM)))))))))))))))) | exact nt (nt (nt (nt (nt (nt (nt (nt (nt (nt (nt (nt (nt (nt (nt (nt (nt (nt nM))))))))))))))))) | exact nt (nt (nt (nt (nt (nt (nt (nt (nt (nt (nt (nt (nt (nt (nt (nt (nt (nt (nt nM)))))))))))))))))) | exact nt (nt (nt (nt (nt (nt (nt (nt (nt (nt (nt (nt (nt (nt (nt (nt (nt (nt (nt (nt nM)))))))))))))))))))))); (clear nM); (rename Fr _ _ _ _ => lF'); (with_unfolding_all refine' For_turns lF' ?_; k_whole)))
local macro_rules | `(tactic| walk_at "subscriptTail") => `(tactic| (k_here; (with_reducible show wpAny _ _ (subscriptTail _ (PySem.Expr.Slice _ _ _ _) (Value.ref _) (Value.ref _)) _ _ _); k_dflt (refine' tupTo ?tF ?tN ?tb ?_; (case tF => k_asm); (case tN => k_asm); (case tb => k_mem)); intro D' h' F' N' l1; (try k_lt l1); (try k_sweep)))
local macro_rules | `(tactic| walk_at "UnrEndW") => `(tactic| (k_here; (have hX := (by with_reducible assumption : Halt True)); refine halt ?_))
theorem law0 : PySem.Challenge.rw_pf0161_01.Holds := useL hd left0 (by
  k_go0
  (all_goals try k_fold)
  (rename IntsAre _ _ => hInts)
  (rename (¬ ((_ : Int) < _)) => hcond)
  (have hns := hns_of hcond rfl)
  (have hcH : CodeHd _ 222 218 := codeHd)
  k_with_none
  k_steps
  unfold Halt
  k_dflt (refine' pool_meets ?zn ?zi _ _ _ _ _ _ _ _ _ _ _ _ _ _ _ _ _ ?zB ?zF ?zX ?zN ?zT ?zk ?zd ?zu ?zL ?_)
  (case zB => k_asm); (case zF => k_asm); (case zX => k_asm); (case zN => k_asm); (case zT => k_asm)
  (case zk => first | exact rfl | assumption); (case zi => assumption); (case zn => assumption); (case zL => assumption); (case zd => ktr_room); (case zu => ktr_units)
  rintro _ _ h1' tk1' ⟨lS', xS', yS', txS', tyS', e1', e2', hy1', hy2', l1'⟩ F' N'; subst e1'; subst e2'
  have hO' : IsSrc (listOf #[.int xS' txS', .int yS' tyS'] 0) := ⟨_, _, _, _, _, rfl, hy1', hy2'⟩
  have l2' : @LT.lt Nat instLTNat 218 lS' := l1' _ (.head _)
  generalize listOf #[Value.int xS' txS', .int yS' tyS'] 0 = oS' at N' hO'
  (try dsimp only at N'); (try k_lt l1'); (try k_sweep); (try dsimp only); (try k_fold)
  k_steps
  unfold Halt
  refine' rest_src ?turn ?done ?hm ?ho
  case hm => rfl
  case ho => assumption
  case turn =>
    rintro v hv m1 o1 hms ho1 h1 tk1 it1 hit1 F1 N1
    obtain ⟨k1, t1, sg1, n1, rfl, hK1⟩ := kind9 hv
    k_steps
    all_goals assumption
  case done =>
    rintro m1 o1 hms ho1 h1 tk1 F1 N1
    (try dsimp only)
    k_steps
    unfold Halt
    obtain ⟨x3, y3, tx3, ty3, n3, e3, hy3⟩ := (by assumption : IsSrc _)
    subst e3
    k_dflt (refine' ledR_meets ?zv _ _ _ _ _ _ _ _ _ _ _ _ _ _ _ _ _ ?zB ?zF ?zX ?zN ?zT ?zk ?zd ?zu ?_)
    (case zB => k_asm); (case zF => k_asm); (case zX => k_asm)
    (case zN => ((rename News _ _ _ _ => nN); first | exact nN | exact nt nN | exact nt (nt nN) | exact nt (nt (nt nN)) | exact nt (nt (nt (nt nN))) | exact nt (nt (nt (nt (nt nN)))) | exact nt (nt (nt (nt (nt (nt nN))))) | exact nt (nt (nt (nt (nt (nt (nt nN)))))) | exact nt (nt (nt (nt (nt (nt (nt (nt nN))))))) | exact nt (nt (nt (nt (nt (nt (nt (nt (nt nN)))))))) | exact nt (nt (nt (nt (nt (nt (nt (nt (nt (nt nN))))))))) | exact nt (nt (nt (nt (nt (nt (nt (nt (nt (nt (nt nN)))))))))) | exact nt (nt (nt (nt (nt (nt (nt (nt (nt (nt (nt (nt nN))))))))))) | exact nt (nt (nt (nt (nt (nt (nt (nt (nt (nt (nt (nt (nt nN)))))))))))) | exact nt (nt (nt (nt (nt (nt (nt (nt (nt (nt (nt (nt (nt (nt nN))))))))))))) | exact nt (nt (nt (nt (nt (nt (nt (nt (nt (nt (nt (nt (nt (nt (nt nN)))))))))))))) | exact nt (nt (nt (nt (nt (nt (nt (nt (nt (nt (nt (nt (nt (nt (nt (nt nN))))))))))))))) | exact nt (nt (nt (nt (nt (nt (nt (nt (nt (nt (nt (nt (nt (nt (nt (nt (nt nN)))))))))))))))) | exact nt (nt (nt (nt (nt (nt (nt (nt (nt (nt (nt (nt (nt (nt (nt (nt (nt (nt nN))))))))))))))))) | exact nt (nt (nt (nt (nt (nt (nt (nt (nt (nt (nt (nt (nt (nt (nt (nt (nt (nt (nt nN)))))))))))))))))) | exact nt (nt (nt (nt (nt (nt (nt (nt (nt (nt (nt (nt (nt (nt (nt (nt (nt (nt (nt (nt nN))))))))))))))))))) | exact nt (nt (nt (nt (nt (nt (nt (nt (nt (nt (nt (nt (nt (nt (nt (nt (nt (nt (nt (nt (nt nN)))))))))))))))))))) | exact nt (nt (nt (nt (nt (nt (nt (nt (nt (nt (nt (nt (nt (nt (nt (nt (nt (nt (nt (nt (nt (nt nN))))))))))))))))))))) | exact nt (nt (nt (nt (nt (nt (nt (nt (nt (nt (nt (nt (nt (nt (nt (nt (nt (nt (nt (nt (nt (nt (nt nN)))))))))))))))))))))) | exact nt (nt (nt (nt (nt (nt (nt (nt (nt (nt (nt (nt (nt (nt (nt (nt (nt (nt (nt (nt (nt (nt (nt (nt nN))))))))))))))))))))))) | exact nt (nt (nt (nt (nt (nt (nt (nt (nt (nt (nt (nt (nt (nt (nt (nt (nt (nt (nt (nt (nt (nt (nt (nt (nt nN)))))))))))))))))))))))) | exact nt (nt (nt (nt (nt (nt (nt (nt (nt (nt (nt (nt (nt (nt (nt (nt (nt (nt (nt (nt (nt (nt (nt (nt (nt (nt nN))))))))))))))))))))))))) | exact nt (nt (nt (nt (nt (nt (nt (nt (nt (nt (nt (nt (nt (nt (nt (nt (nt (nt (nt (nt (nt (nt (nt (nt (nt (nt (nt nN)))))))))))))))))))))))))) | exact nt (nt (nt (nt (nt (nt (nt (nt (nt (nt (nt (nt (nt (nt (nt (nt (nt (nt (nt (nt (nt (nt (nt (nt (nt (nt (nt (nt nN))))))))))))))))))))))))))) | exact nt (nt (nt (nt (nt (nt (nt (nt (nt (nt (nt (nt (nt (nt (nt (nt (nt (nt (nt (nt (nt (nt (nt (nt (nt (nt (nt (nt (nt nN)))))))))))))))))))))))))))) | exact nt (nt (nt (nt (nt (nt (nt (nt (nt (nt (nt (nt (nt (nt (nt (nt (nt (nt (nt (nt (nt (nt (nt (nt (nt (nt (nt (nt (nt (nt nN)))))))))))))))))))))))))))))))
    (case zT => k_asm); (case zk => first | exact rfl | assumption); (case zv => assumption); (case zd => ktr_room); (case zu => ktr_units)
    rintro _ _ h2' tk2' ⟨e1', e2'⟩ F' N'; subst e1'; subst e2'
    (try dsimp only)
    k_steps
    unfold Halt
    k_dflt (refine' refused_meets ?zy ?zs _ _ _ _ _ _ _ _ _ _ _ _ _ _ _ ?zB ?zF ?zX ?zN ?zT ?zk ?zd ?zu ?zH ?_)
    (case zB => k_asm); (case zF => k_asm); (case zX => k_asm); (case zN => k_asm); (case zT => k_asm); (case zk => first | exact rfl | assumption)
    (case zy => assumption); (case zs => assumption); (case zH => assumption); (case zd => ktr_room); (case zu => ktr_units)
    rintro _ _ h3' tk3' ⟨x4, y4, tx4, ty4, n4, ps4, e1', e2', hy4⟩ F' N'; subst e1'; subst e2'
    have hO4 : IsSrc (listOf #[.int x4 tx4, .int y4 ty4] n4) := ⟨_, _, _, _, _, rfl, hy4⟩
    generalize listOf #[Value.int x4 tx4, .int y4 ty4] n4 = o4 at N' hO4
    (try dsimp only)
    k_steps
    unfold Halt
    refine' rest_src ?turn2 ?done2 ?hm2 ?ho2
    case hm2 => (try dsimp only); (iterate 9 (try (refine (if_neg (by decide +kernel)).trans ?_))); assumption
    case ho2 => assumption
    case turn2 =>
      rintro v hv m2 o2 hms2 ho2 h4 tk4 it4 hit4 F4 N4
      obtain ⟨k2, t2, sg2, n2, rfl, hK2⟩ := kind9 hv
      have hHalt : Halt True := trivial
      k_steps
      unfold Halt
      (rename Fr _ _ _ _ => nF)
      (rename News _ _ _ _ => nN)
      refine' UnrEndW.intro nF nN _ ?ea ?eb ?ec ⟨?ed, ?em, o2, ho2, rfl⟩
      case ea => k_subL
      case eb => k_subL
      case ec => ktu_offL
      case ed => k_subL
      case em => (try dsimp only); (iterate 9 (try (refine (if_neg (by decide +kernel)).trans ?_))); exact hms2
    case done2 =>
      rintro m2 o2 hms2 ho2 h4 tk4 F4 N4
      (try dsimp only)
      k_steps)
end Mine
theorem PySem.Challenge.cw_pf0161_01_holds : PySem.Challenge.rw_pf0161_01.Holds :=
  Mine.law0
#print axioms PySem.Challenge.cw_pf0161_01_holds
