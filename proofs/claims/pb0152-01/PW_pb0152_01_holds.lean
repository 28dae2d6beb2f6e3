import PyProof.Rows.All
import Wide.All
import OpenK.AllK
import Wide.FinOn
import Lean
import PySem.Challenge.RW_pb0152_01
open PySem PySem.W PyProof.Rows
set_option Elab.async false
set_option compiler.extract_closed false
set_option maxRecDepth 100000
set_option maxHeartbeats 8000000
namespace Jh
theorem hd : True := by
  have : type_of% (type_of% (And.intro (?hl : _) (And.intro (?hw : _) (And.intro (?hc : _) (?z3 : _))))) := True
  refine (?f : (PySem.Challenge.rw_pb0152_01.row).Holds → True) ?g
  case f => exact fun _ => trivial
  case g =>
    have said : (PySem.Challenge.rw_pb0152_01.row).wellSaid = true := ?z3
    k_head
theorem hkeys : ∀ P, [2, 3, 15, 16, 18, 19, 21, 22, 23, 25, 26, 28, 29, 30, 32, 33, 35, 36, 37, 39, 40, 42, 43, 44, 46, 47, 49, 50, 51, 53, 54, 56, 57, 58, 60, 61, 63, 64, 72, 74, 75, 77, 78, 79, 81, 82, 84, 85, 86, 87, 88, 89, 90, 100, 102, 103, 105, 106, 107, 110, 111, 112, 113, 114, 115, 116, 126, 128, 129, 131, 132, 133, 136, 137, 138, 139, 140, 141, 142, 145, 146, 149, 150, 151, 153, 154, 156, 157, 158, 160, 161, 163, 164, 165, 167, 168, 170, 171, 172, 174, 175, 177, 178, 179, 181, 182, 184, 185, 186, 189, 190, 191, 194, 195] = (hd.heap_1 P).map (·.1) := fun P => by kernel_rfl
noncomputable abbrev HK : Hook := kHook hd.heap_1 _ hkeys
theorem headSaid : PySem.Challenge.rw_pb0152_01.wellSaid = true := by
  rw [PySem.W.Fast.te9446332074065402090]
  kernel_rfl
theorem headLeft : LeftO PySem.Challenge.rw_pb0152_01.row.toRowW.prog hd.view_1 [] (fun s => xlAt hd.view_1 [] s && recOk (RowW.records PySem.Challenge.rw_pb0152_01.row.toRowW) s) (Hook.obs HK) (Hook.val HK) 2666 := by
  intro w
  unfold openEnds fencedOpening topFrom
  rw [PySem.W.Fast.te14082659384304107361, PySem.W.Fast.te4187177175401517315, PySem.W.Fast.te14289696077712309145, PySem.W.Fast.te10274390034422433532, PySem.W.Fast.te1435165496053646825]
  kernel_rfl
theorem headWit : PySem.Challenge.rw_pb0152_01.row.toRowW.promised := by w_witness2
theorem head {d : DefRec} {kwd : List (Str × PySem.Expr)} (hdef : defOf hd.view_1 PySem.Challenge.rw_pb0152_01.row.toRowW.name = some (d, kwd)) (hp : PySem.Challenge.rw_pb0152_01.row.toRowW.prog.theDef PySem.Challenge.rw_pb0152_01.row.toRowW.name = some (d.params, d.body, d.scope)) (hk : kwWritten? d.params.kwonlyargs d.params.kw_defaults = some kwd)
    (call : WalkO hd.view_1 [] (XL hd.view_1 []) (Hook.says HK) PySem.Challenge.rw_pb0152_01.row.toRowW d kwd fun f vs => PySem.call f vs) : PySem.Challenge.rw_pb0152_01.Holds :=
  holds_law headSaid fun said => holds_open (q := hd.view_1) (loose := []) (Xt := fun s => xlAt hd.view_1 [] s && recOk (RowW.records PySem.Challenge.rw_pb0152_01.row.toRowW) s) (XP := XL hd.view_1 []) (Yf := Hook.obs HK) (Ya := Hook.val HK) (YP := Hook.says HK) (N := 2666) headLeft (Hook.of HK) (Hook.keeps HK) (fun s e => xl_of s (Bool.and_eq_true_iff.mp e).1) XL.keeps hdef hp hk (fun s e => recFacts_of (Bool.and_eq_true_iff.mp e).2) (by decide +kernel) said (by decide +kernel) ⟨rfl, rfl, rfl, rfl, rfl, by decide +kernel⟩ headWit call
open PySem.Calls PyProof.V PySem.Spec
theorem fillK (P : PySem.Params) : (hd.heap_1 P).length = (hd.heap_1 P).length ∧ PySem.Challenge.rw_pb0152_01.name = PySem.Challenge.rw_pb0152_01.name := by k_fill; exact ⟨rfl, rfl⟩
/-- a contract of a def of the text: a call of it at any frame, over the ledger N₀ -/
def Con (prog : Program) (w : World) (K : Frag) (p : Program) (loose : List Str) (mean : ExcName → Option Value) (mg mb : Str → Option Value) (k : Nat) (f : Addr) (vs : List Value) (N₀ : List (Addr × Obj)) (R : Value → List (Addr × Obj) → Prop) : Prop :=
  ∀ (dp un : Nat) (gd : Option (List Code)) (cn : Str) (cs : Scope) (a : Addr) (ccd : Value) (cl : List (Str × Addr)) (outer : List Env) (A₀ : Around) (base h₀ : Heap) (L : Addr) (m : Str → Option Value) (s : Shared) (Q E : Value → Shared → Prop),
    Below A₀ base outer h₀ → Fr h₀ L s.heap m → K.In h₀ → News h₀ L s.heap N₀ → Top p loose mean mg mb h₀ → cs.kind = .function → dp + 10 * k < 900 → un + 100 * k < 9000 →
    (∀ r news' h' tk', Fr h₀ L h' m → News h₀ L h' news' → R r news' → Q r { s with heap := h', toks := tk' }) →
    wpAny (model prog w) (ktrTop dp un gd cn cs L a ccd cl outer) (call (.ref f) vs) Q E s

/-- the pen: the list [digits, counter, rest] and the list of digits -/
def PenOk (qa : Nat) (o1 o2 : Obj) : Prop :=
  ∃ ctr v tc tv xs vs n1 n2, o1 = listOf (List.toArray [.ref qa, .int ctr tc, .int v tv]) n1 ∧ o2 = listOf (List.toArray vs) n2 ∧ IntsAre vs xs ∧ 0 ≤ v ∧ (∀ x ∈ xs, 0 ≤ x) ∧ vs.length ≤ 40

theorem news_drop {h₀ h : Heap} {L : Addr} {l l' : List (Addr × Obj)} (N : News h₀ L h l) (hs : ∀ p ∈ l', p ∈ l) : News h₀ L h l' := fun p hp => N p (hs p hp)

theorem updF_mem {d : Addr} {o : Obj} {l : List (Addr × Obj)} {g : Obj → List (Addr × Obj)} (U : UpdF d o l g) : (d, o) ∈ l ∧ ∀ o' p, p ∈ g o' → p = (d, o') ∨ (p ∈ l ∧ p.1 ≠ d) := by
  obtain ⟨pre, post, rfl, hg, a, b⟩ := U.split
  refine ⟨List.mem_append.mpr (.inr (.head _)), fun o' p hp => ?_⟩
  rw [hg] at hp
  rcases List.mem_append.mp hp with hp | hp
  · exact .inr ⟨List.mem_append.mpr (.inl hp), a p hp⟩
  · rcases List.mem_cons.mp hp with rfl | hp
    · exact .inl rfl
    · exact .inr ⟨List.mem_append.mpr (.inr (.tail _ hp)), b p hp⟩

theorem fdiv_nonneg' {a b : Int} (ha : 0 ≤ a) (hb : 1 ≤ b) : 0 ≤ a.fdiv b := by
  rw [Int.fdiv_eq_ediv_of_nonneg _ (by omega)]; exact Int.ediv_nonneg ha (by omega)
theorem fmod_in {a b : Int} (hb : 1 ≤ b) : 0 ≤ a.fmod b ∧ a.fmod b < b :=
  ⟨Int.fmod_nonneg_of_pos _ (by omega), Int.fmod_lt_of_pos _ (by omega)⟩

theorem pop0 {prog : Program} {w : World} {A : Around} {E : Value → Shared → Prop} {s : Shared} {h₀ : Heap} {L D : Addr} {m : Str → Option Value} {news news' : List (Addr × Obj)} {y : Value} {r : List Value} {n : Nat} {u : Tok} {Q : Value → Shared → Prop}
    (F : Fr h₀ L s.heap m) (N : News h₀ L s.heap news) (U : Upd D (listOf (List.toArray (y :: r)) n) (listOf (List.toArray r) (n + 1)) news news') (hz : r.length ≤ 100)
    (h : ∀ h', Fr h₀ L h' m → News h₀ L h' news' → Q y { s with heap := h' }) : wpAny (model prog w) A (call (.builtin "list.pop") [.ref D, .int 0 u]) Q E s :=
  kl_popAt (its := List.toArray (y :: r)) (k := 0) (p := []) (q := r) (y := y) F N rfl (by simp [seqIndex?]) rfl (by simpa using U) (by simp only [List.length_cons]; rw [sizeLine_eq]; omega) h

theorem penThree {a b c : Addr × Obj} {l : List (Addr × Obj)} : ∀ p ∈ a :: b :: l, p ∈ a :: b :: c :: l := fun p hq => by
  simp only [List.mem_cons] at hq ⊢
  rcases hq with hq | hq | hq <;> simp only [hq, true_or, or_true]
theorem penOff {D : Addr} : ∀ {l : List (Addr × Obj)}, LCg.Off1 D l → ∀ p ∈ l, p.1 ≠ D
  | [], _, _, h => nomatch h
  | _ :: _, x, p, h => by
    rcases List.mem_cons.mp h with rfl | h
    · exact x.1
    · exact penOff x.2 p h
theorem penLt {D : Addr} : ∀ {l : List (Addr × Obj)}, AllLt D l → ∀ p ∈ l, p.1 < D := fun {l} h => by
  induction l with
  | nil => exact fun _ h => nomatch h
  | cons a r ih =>
    intro p hp
    rcases List.mem_cons.mp hp with rfl | hp
    · exact h.1
    · exact ih h.2 p hp
section
local macro_rules | `(tactic| walk_at "eval ListComp") => `(tactic| (k_here; k_dflt (refine LCg.ListComp_U (F₀ := by k_asm) (by with_unfolding_all rfl) (by decide) (by rfl) (by decide) (by rfl) ?_)))
local macro_rules | `(tactic| walk_at "CompSrc") => `(tactic| (k_here; k_dflt (refine LCg.CompSrc.ledger (by rfl) (by k_asm) (by k_asm) (by k_mem) (by first | size_fits | (rw [List.size_toArray, sizeLine_eq]; omega)) ?_)))
/-- the pen of a list of xs -/
theorem con_pen {prog : Program} {w : World} {p : Program} {loose : List Str} {mean : ExcName → Option Value} {mg mb : Str → Option Value}
    {dp un : Nat} {gd : Option (List Code)} {cn : Str} {cs : Scope} {a : Addr} {ccd : Value} {cl : List (Str × Addr)} {outer : List Env} {A₀ : Around} {base h₀ : Heap} {L : Addr} {m : Str → Option Value} {s : Shared} {Q E : Value → Shared → Prop}
    {l : Addr} {vals : List Value} {xs : List Int} {news : List (Addr × Obj)}
    (B : Below A₀ base outer h₀) (F : Fr h₀ L s.heap m) (X : (hd.heap_1 w.params).In h₀) (N : News h₀ L s.heap news) (T : Top p loose mean mg mb h₀) (hk : cs.kind = .function) (hL : h₀.IsList l vals.toArray) (hI : IntsAre vals xs) (hz : xs.length ≤ 63) (hd : dp + 10 < 900) (hu : un + 100 < 9000)
    (ret : ∀ pa qa o1 o2 h' tk', PenOk qa o1 o2 → pa ≠ qa → (∀ p ∈ news, p.1 ≠ pa) → (∀ p ∈ news, p.1 ≠ qa) → Fr h₀ L h' m → News h₀ L h' ((pa, o1) :: (qa, o2) :: news) → Q (.ref pa) { s with heap := h', toks := tk' }) :
    wpAny (model prog w) (ktrTop dp un gd cn cs L a ccd cl outer) (call (.ref 150) [.ref l]) Q E s := by
  refine wpAny_call ?_
  k_dflt ktr_enter
  rename_i FG _ _ _ _ _
  have hL2 := stays_list FG.keep hL
  clear hL
  have hzz := hI.length
  k_steps
  rename_i hIt _ _ _
  refine kcf_list (fun k => 2 * (if k < 0 then -k else k) + (if decide (k < 0) = true then 1 else 0)) hIt ?_ ?_
  · intro k t I oI C oC D m₂ ys h tk E' hk2 hC hx F3 N3 off ne mk
    k_steps
  · unfold KPfDone
    intro ys hys
    k_steps
    (rename Fr h₀ L _ m => F5); (rename News h₀ L _ _ => N5)
    rename_i o1 _ _ _ _ l1 _ _
    have ho : ∀ q ∈ news, q.1 ≠ _ := penOff o1.2
    have hl2 : ∀ q ∈ news, q.1 ≠ _ := fun q hq => Nat.ne_of_lt (penLt l1.2.2 q hq)
    have hlen := hys.length
    rw [List.length_map, List.length_take] at hlen
    have N6 : News h₀ L _ ((_, listOf (List.toArray [_, .int 0 _, .int 0 _]) 0) :: (_, listOf (List.toArray ys) _) :: news) := news_drop N5 penThree
    refine ret _ _ _ _ _ _ ⟨0, 0, _, _, _, ys, _, _, rfl, rfl, hys, Int.le_refl _, ?_, by omega⟩ (Ne.symm (Nat.ne_of_lt l1.1)) hl2 ho F5 N6
    · intro x hx
      obtain ⟨k, _, rfl⟩ := List.mem_map.mp hx
      split <;> split <;> omega
end

local macro_rules | `(tactic| ktd_call $f $vs) => `(tactic| (k_here; with_reducible show wpAny _ _ (call $f $vs) _ _ _))
local macro_rules | `(tactic| k_search $t) => `(tactic| k_dflt (apply $t; (case B => k_asm); (case F => k_asm); (case X => k_asm); (case N => k_asm); (case T => k_asm); (case hk => first | exact rfl | assumption); (try (case U1 => k_updF)); (try (case hP => first | with_reducible assumption | assumption)); (try (case U2 => (intro oU; (try dsimp only); k_updF))); (try (case H => first | with_reducible assumption | ktr_rel)); (try (case hs => k_subL)); (try (case hl => k_mem)); (try (case hS => first | with_reducible assumption | exact .cons _ _ (.cons _ _ .nil))); (try (case hL => assumption)); (try (case hI => assumption)); (try (case hz => first | omega | assumption | exact Nat.le_of_ble_eq_true rfl)); (try (case hm => first | with_reducible assumption | exact Nat.le_of_ble_eq_true rfl | omega)); (try (case hm2 => first | exact Nat.le_of_ble_eq_true rfl | omega)); (try (case hpq => first | with_reducible assumption | k_ne)); (try (case hlp => k_ne)); (try (case hlq => k_ne)); (try (case hf => assumption)); (case hd => ktr_room); (case hu => ktr_room)))
local macro_rules | `(tactic| k_room) => `(tactic| ((try simp only [depth_under_make, depth_under_kw, depth_in1, depth_deeper, depth_caller]); (try dsimp only [ktrTop]); (simp only [recursionLimit]); omega))
local macro_rules | `(tactic| k_all) => `(tactic| assumption)
local macro_rules | `(tactic| walk_at "call builtin:list.pop") => `(tactic| (ktd_call (Value.builtin _) [Value.ref _, Value.int 0 _]; k_dflt (refine' pop0 ?F ?N ?U ?z ?_; (case F => k_asm); (case N => k_asm); (case U => k_upd); (case z => omega)); intro h' F' N'))

theorem draw_c {prog : Program} {w : World} {p : Program} {loose : List Str} {mean : ExcName → Option Value} {mg mb : Str → Option Value}
   {pa qa : Nat} {ctr v many : Int} {tc tv tm : Tok} {xs : List Int} {vs : List Value} {n1 n2 : Nat} {R : List (Addr × Obj)}
   (hi : IntsAre vs xs) (hv : 0 ≤ v) (hx : ∀ x ∈ xs, 0 ≤ x) (hl : vs.length ≤ 40) (hm : 1 ≤ many) (hm2 : many ≤ 100) (hpq : pa ≠ qa) (h1 : ∀ r ∈ R, r.1 ≠ pa) (h2 : ∀ r ∈ R, r.1 ≠ qa) :
   Con prog w (hd.heap_1 w.params) p loose mean mg mb 0 157 [.ref pa, .int many tm]
     ((pa, listOf (List.toArray [.ref qa, .int ctr tc, .int v tv]) n1) :: (qa, listOf (List.toArray vs) n2) :: R)
     fun r news' => ∃ d t o1' o2', r = .int d t ∧ 0 ≤ d ∧ d < many ∧ PenOk qa o1' o2' ∧ news' = (pa, o1') :: (qa, o2') :: R := by
  intro dp un gd cn cs a ccd cl outer A₀ base h₀ L m s Q E B F X N T hk hdp hun hret
  cases hi with
  | nil =>
    refine wpAny_call ?_
    k_dflt ktr_enter
    k_steps
    all_goals (refine hret _ ((pa, listOf (List.toArray [.ref qa, .int _ _, .int _ _]) _) :: (qa, listOf (List.toArray []) _) :: R) _ _ (by k_asm) (by first | k_asm | exact news_drop (by assumption) (fun p hp => List.mem_cons_of_mem _ hp)) ⟨_, _, _, _, rfl, (fmod_in hm).1, (fmod_in hm).2, ⟨_, _, _, _, _, _, _, _, rfl, rfl, .nil, fdiv_nonneg' ?_ hm, hx, hl⟩, rfl⟩ <;> omega)
  | cons x t hi' =>
    have hx0 := hx x (List.mem_cons_self ..)
    have hxs := fun y hy => hx y (List.mem_cons_of_mem _ hy)
    have hll : _ := List.length_cons ▸ hl
    refine wpAny_call ?_
    k_dflt ktr_enter
    k_steps
    all_goals first
      | (refine hret _ ((pa, listOf (List.toArray [.ref qa, .int _ _, .int _ _]) _) :: (qa, listOf (List.toArray (.int x t :: _)) _) :: R) _ _ (by k_asm) (by first | k_asm | exact news_drop (by assumption) (fun p hp => List.mem_cons_of_mem _ hp)) ⟨_, _, _, _, rfl, (fmod_in hm).1, (fmod_in hm).2, ⟨_, _, _, _, _, _, _, _, rfl, rfl, .cons _ _ hi', fdiv_nonneg' (by omega) hm, hx, hl⟩, rfl⟩; done)
      | (refine hret _ ((pa, listOf (List.toArray [.ref qa, .int _ _, .int _ _]) _) :: (qa, listOf (List.toArray _) _) :: R) _ _ (by k_asm) (by first | k_asm | exact news_drop (by assumption) (fun p hp => List.mem_cons_of_mem _ hp)) ⟨_, _, _, _, rfl, (fmod_in hm).1, (fmod_in hm).2, ⟨_, _, _, _, _, _, _, _, rfl, rfl, hi', fdiv_nonneg' (by omega) hm, hxs, by omega⟩, rfl⟩; done)

/-- a draw, wherever the pen stands in the ledger -/
theorem draw_u {prog : Program} {w : World} {p : Program} {loose : List Str} {mean : ExcName → Option Value} {mg mb : Str → Option Value}
   {pa qa : Nat} {many : Int} {tm : Tok} {o1 o2 : Obj} {news : List (Addr × Obj)} {g1 : Obj → List (Addr × Obj)} {g2 : Obj → Obj → List (Addr × Obj)}
   (hP : PenOk qa o1 o2) (hm : 1 ≤ many) (hm2 : many ≤ 100) (U1 : UpdF pa o1 news g1) (U2 : ∀ o, UpdF qa o2 (g1 o) (g2 o)) (hpq : pa ≠ qa) :
   Con prog w (hd.heap_1 w.params) p loose mean mg mb 0 157 [.ref pa, .int many tm] news
     fun r news' => ∃ d t o1' o2', r = .int d t ∧ 0 ≤ d ∧ d < many ∧ PenOk qa o1' o2' ∧ news' = g2 o1' o2' := by
  obtain ⟨ctr, v, tc, tv, xs, vs, n1, n2, rfl, rfl, hi, hv, hx, hl⟩ := hP
  intro dp un gd cn cs a ccd cl outer A₀ base h₀ L m s Q E B F X N T hk hdp hun hret
  have m1 := (updF_mem U1).1
  have m2 : (qa, listOf (List.toArray vs) n2) ∈ news := by
    rcases (updF_mem U1).2 _ _ (updF_mem (U2 (listOf (List.toArray [.ref qa, .int ctr tc, .int v tv]) n1))).1 with e | e
    · exact absurd (congrArg Prod.fst e) (Ne.symm hpq)
    · exact e.1
  refine draw_c (ctr := ctr) (tc := tc) (tv := tv) (n1 := n1) (n2 := n2) (R := news.filter fun r => decide (r.1 ≠ pa ∧ r.1 ≠ qa)) hi hv hx hl hm hm2 hpq (fun r hr => (of_decide_eq_true (List.mem_filter.mp hr).2).1) (fun r hr => (of_decide_eq_true (List.mem_filter.mp hr).2).2)
    dp un gd cn cs a ccd cl outer A₀ base h₀ L m s Q E B F X (fun p hp => ?_) T hk hdp hun (fun r news' h' tk' F' N' hr => ?_)
  · rcases List.mem_cons.mp hp with rfl | hp
    · exact N _ m1
    · rcases List.mem_cons.mp hp with rfl | hp
      · exact N _ m2
      · exact N p (List.mem_filter.mp hp).1
  · obtain ⟨d, t, o1', o2', rfl, h0, h1, hP, rfl⟩ := hr
    refine hret _ (g2 o1' o2') _ _ F' (fun p hp => ?_) ⟨d, t, o1', o2', rfl, h0, h1, hP, rfl⟩
    rcases (updF_mem (U2 o1')).2 _ _ hp with rfl | ⟨h3, h4⟩
    · exact N' _ (.tail _ (.head _))
    · rcases (updF_mem U1).2 _ _ h3 with rfl | ⟨h5, h6⟩
      · exact N' _ (.head _)
      · exact N' _ (.tail _ (.tail _ (List.mem_filter.mpr ⟨h5, decide_eq_true ⟨h6, h4⟩⟩)))

theorem con_use {prog : Program} {w : World} {K : Frag} {p : Program} {loose : List Str} {mean : ExcName → Option Value} {mg mb : Str → Option Value} {k : Nat} {f : Addr} {vs : List Value} {N₀ : List (Addr × Obj)} {R : Value → List (Addr × Obj) → Prop}
    {dp un : Nat} {gd : Option (List Code)} {cn : Str} {cs : Scope} {a : Addr} {ccd : Value} {cl : List (Str × Addr)} {outer : List Env} {A₀ : Around} {base h₀ : Heap} {L : Addr} {m : Str → Option Value} {s : Shared} {Q E : Value → Shared → Prop}
    (B : Below A₀ base outer h₀) (F : Fr h₀ L s.heap m) (X : K.In h₀) (N : News h₀ L s.heap N₀) (T : Top p loose mean mg mb h₀) (hk : cs.kind = .function) (C : Con prog w K p loose mean mg mb k f vs N₀ R) (hd : dp + 10 * k < 900) (hu : un + 100 * k < 9000)
    (ret : ∀ r news' h' tk', Fr h₀ L h' m → News h₀ L h' news' → R r news' → Q r { s with heap := h', toks := tk' }) :
    wpAny (model prog w) (ktrTop dp un gd cn cs L a ccd cl outer) (call (.ref f) vs) Q E s := C _ _ _ _ _ _ _ _ _ _ _ _ _ _ _ _ _ B F X N T hk hd hu ret
theorem con_draw {prog : Program} {w : World} {p : Program} {loose : List Str} {mean : ExcName → Option Value} {mg mb : Str → Option Value}
    {dp un : Nat} {gd : Option (List Code)} {cn : Str} {cs : Scope} {a : Addr} {ccd : Value} {cl : List (Str × Addr)} {outer : List Env} {A₀ : Around} {base h₀ : Heap} {L : Addr} {m : Str → Option Value} {s : Shared} {Q E : Value → Shared → Prop}
    {pa qa : Nat} {many : Int} {tm : Tok} {o1 o2 : Obj} {news : List (Addr × Obj)} {g1 : Obj → List (Addr × Obj)} {g2 : Obj → Obj → List (Addr × Obj)}
    (B : Below A₀ base outer h₀) (F : Fr h₀ L s.heap m) (X : (hd.heap_1 w.params).In h₀) (N : News h₀ L s.heap news) (T : Top p loose mean mg mb h₀) (hk : cs.kind = .function)
    (U1 : UpdF pa o1 news g1) (hP : PenOk qa o1 o2) (U2 : ∀ o, UpdF qa o2 (g1 o) (g2 o)) (hm : 1 ≤ many) (hm2 : many ≤ 100) (hpq : pa ≠ qa) (hd : dp < 900) (hu : un < 9000)
    (ret : ∀ d t o1' o2' h' tk', 0 ≤ d → d < many → PenOk qa o1' o2' → Fr h₀ L h' m → News h₀ L h' (g2 o1' o2') → Q (.int d t) { s with heap := h', toks := tk' }) :
    wpAny (model prog w) (ktrTop dp un gd cn cs L a ccd cl outer) (call (.ref 157) [.ref pa, .int many tm]) Q E s :=
  con_use B F X N T hk (draw_u hP hm hm2 U1 U2 hpq) hd hu fun r news' h' tk' F' N' hr => by
    obtain ⟨d, t, o1', o2', rfl, h0, h1, hP', rfl⟩ := hr
    exact ret d t o1' o2' h' tk' h0 h1 hP' F' N'
section
variable {prog : Program} {w : World} {A : Around} {E : Value → Shared → Prop} {s : Shared} {h₀ : Heap} {L : Addr} {news R : List (Addr × Obj)} {la : Addr} {vs : List Value} {n : Nat}
theorem led_list (N : News h₀ L s.heap news) (hm : (la, listOf (List.toArray vs) n) ∈ R) (hs : ∀ p ∈ R, p ∈ news) : s.heap.IsList la vs.toArray := ⟨_, (N _ (hs _ hm)).1, rfl, n, rfl⟩
theorem len_led {Q : Value → Shared → Prop} (N : News h₀ L s.heap news) (hm : (la, listOf (List.toArray vs) n) ∈ R) (hs : ∀ p ∈ R, p ∈ news) (hz : vs.length ≤ 1000)
    (h : Q (.int vs.length (s.toks + 1)) { s with toks := s.toks + 1 + 1 }) : wpAny (model prog w) A (call (.builtin "len") [.ref la]) Q E s :=
  call_len_list (led_list N hm hs) (by rw [List.size_toArray]; omega) (by rw [List.size_toArray]; exact h)
theorem item_led {value slice : PySem.Expr} {k : Int} {u : Tok} {Q : Value → Shared → Prop} (N : News h₀ L s.heap news) (hm : (la, listOf (List.toArray vs) n) ∈ R) (hs : ∀ p ∈ R, p ∈ news) (h0 : 0 ≤ k) (h1 : k < vs.length) (hz : vs.length ≤ 1000)
    (h : ∀ x, x ∈ vs → Q x s)
    (hk : subscripted slice false (.ref la) (.int k u) = operate [.ref la, .int k u] (getItem (.ref la) (.int k u)) := by with_unfolding_all rfl) :
    wpAny (model prog w) A (subscriptTail value slice (.ref la) (.int k u)) Q E s := by
  have hl := led_list N hm hs
  have hlt : k.toNat < vs.length := by omega
  exact tail_any hl.typeIs slot_list_getitem.lookup (wpAny_getItem_list hl h0 (by omega) (x := vs[k.toNat]) (by simp [hlt]) (h _ (List.getElem_mem hlt))) hk
end

local macro_rules | `(tactic| ktr_room) => `(tactic| ((try simp only [depth_under_make, depth_under_kw, depth_in1, depth_deeper, depth_caller, units_in1, units_deeper, Around.mark_units, units_caller]); (try dsimp only [ktrTop]); omega))
local macro_rules | `(tactic| k_subL) => `(tactic| (intro p hp; repeat (first | exact hp | refine List.mem_cons_of_mem _ ?_)))
local macro_rules | `(tactic| walk_at "call ref") => `(tactic| (ktd_call (Value.ref 157) [Value.ref _, Value.int _ _]; k_search con_draw; intro d' t' o1' o2' h' tk' hd0 hd1 hP' F' N'; (try dsimp only at N'); (try k_sweep); (try dsimp only); (try k_fold)))
local macro_rules | `(tactic| walk_at "call builtin:len") => `(tactic| (ktd_call (Value.builtin "len") [Value.ref _]; k_dflt (refine' len_led ?kN ?km ?ks ?kz ?_; (case kN => k_asm); (case km => assumption); (case ks => k_subL); (case kz => omega))))
local macro_rules | `(tactic| walk_at "subscriptTail") => `(tactic| (k_here; (with_reducible show wpAny _ _ (subscriptTail _ _ (Value.ref _) (Value.int _ _)) _ _ _); k_dflt (refine' item_led ?kN ?km ?ks ?k0 ?k1 ?kz ?_ ?k2; (case kN => k_asm); (case km => assumption); (case ks => k_subL); (case k0 => omega); (case k1 => omega); (case kz => omega); (case k2 => with_unfolding_all rfl)); intro x' hx'))
local macro_rules | `(tactic| k_mem) => `(tactic| ((repeat refine List.mem_cons_of_mem _ ?_); ktr_member))

theorem pick_c {prog : Program} {w : World} {p : Program} {loose : List Str} {mean : ExcName → Option Value} {mg mb : Str → Option Value}
   {pa qa la : Nat} {vs : List Value} {nl : Nat} {o1 o2 : Obj} {R : List (Addr × Obj)}
   (hP : PenOk qa o1 o2) (hm : 1 ≤ vs.length) (hm2 : vs.length ≤ 100) (hpq : pa ≠ qa) (h1 : ∀ r ∈ R, r.1 ≠ pa) (h2 : ∀ r ∈ R, r.1 ≠ qa) (hl : (la, listOf (List.toArray vs) nl) ∈ R) :
   Con prog w (hd.heap_1 w.params) p loose mean mg mb 1 164 [.ref pa, .ref la] ((pa, o1) :: (qa, o2) :: R)
     fun r news' => ∃ o1' o2', r ∈ vs ∧ PenOk qa o1' o2' ∧ news' = (pa, o1') :: (qa, o2') :: R := by
  intro dp un gd cn cs a ccd cl outer A₀ base h₀ L m s Q E B F X N T hk hdp hun hret
  refine wpAny_call ?_
  k_dflt ktr_enter
  k_steps
  exact hret _ _ _ _ (by k_asm) (by k_asm) ⟨_, _, by assumption, by assumption, rfl⟩

theorem con_pick {prog : Program} {w : World} {p : Program} {loose : List Str} {mean : ExcName → Option Value} {mg mb : Str → Option Value}
    {dp un : Nat} {gd : Option (List Code)} {cn : Str} {cs : Scope} {a : Addr} {ccd : Value} {cl : List (Str × Addr)} {outer : List Env} {A₀ : Around} {base h₀ : Heap} {L : Addr} {m : Str → Option Value} {s : Shared} {Q E : Value → Shared → Prop}
    {pa qa la : Nat} {vs : List Value} {nl : Nat} {o1 o2 : Obj} {news : List (Addr × Obj)} {g1 : Obj → List (Addr × Obj)} {g2 : Obj → Obj → List (Addr × Obj)}
    (B : Below A₀ base outer h₀) (F : Fr h₀ L s.heap m) (X : (hd.heap_1 w.params).In h₀) (N : News h₀ L s.heap news) (T : Top p loose mean mg mb h₀) (hk : cs.kind = .function)
    (U1 : UpdF pa o1 news g1) (hP : PenOk qa o1 o2) (U2 : ∀ o, UpdF qa o2 (g1 o) (g2 o)) (hl : (la, listOf (List.toArray vs) nl) ∈ news) (hm : 1 ≤ vs.length) (hm2 : vs.length ≤ 100) (hpq : pa ≠ qa) (hlp : la ≠ pa) (hlq : la ≠ qa) (hd : dp + 10 < 900) (hu : un + 100 < 9000)
    (ret : ∀ r o1' o2' h' tk', r ∈ vs → PenOk qa o1' o2' → Fr h₀ L h' m → News h₀ L h' (g2 o1' o2') → Q r { s with heap := h', toks := tk' }) :
    wpAny (model prog w) (ktrTop dp un gd cn cs L a ccd cl outer) (call (.ref 164) [.ref pa, .ref la]) Q E s := by
  have m1 := (updF_mem U1).1
  have m2 : (qa, o2) ∈ news := by
    rcases (updF_mem U1).2 _ _ (updF_mem (U2 o1)).1 with e | e
    · exact absurd (congrArg Prod.fst e) (Ne.symm hpq)
    · exact e.1
  have hl' : (la, listOf (List.toArray vs) nl) ∈ news.filter (fun r => decide (r.1 ≠ pa ∧ r.1 ≠ qa)) := List.mem_filter.mpr ⟨hl, decide_eq_true ⟨hlp, hlq⟩⟩
  refine con_use B F X (fun p hp => ?_) T hk (pick_c (R := news.filter fun r => decide (r.1 ≠ pa ∧ r.1 ≠ qa)) hP hm hm2 hpq (fun r hr => (of_decide_eq_true (List.mem_filter.mp hr).2).1) (fun r hr => (of_decide_eq_true (List.mem_filter.mp hr).2).2) hl') hd hu fun r news' h' tk' F' N' hr => ?_
  · rcases List.mem_cons.mp hp with rfl | hp
    · exact N _ m1
    · rcases List.mem_cons.mp hp with rfl | hp
      · exact N _ m2
      · exact N p (List.mem_filter.mp hp).1
  · obtain ⟨o1', o2', hr, hP', rfl⟩ := hr
    refine ret r o1' o2' h' tk' hr hP' F' fun p hp => ?_
    rcases (updF_mem (U2 o1')).2 _ _ hp with rfl | ⟨h3, h4⟩
    · exact N' _ (.tail _ (.head _))
    · rcases (updF_mem U1).2 _ _ h3 with rfl | ⟨h5, h6⟩
      · exact N' _ (.head _)
      · exact N' _ (.tail _ (.tail _ (List.mem_filter.mpr ⟨h5, decide_eq_true ⟨h6, h4⟩⟩)))

/-- a LangSys of the text at v: its number, its one feature -/
inductive LsIn (R : List (Addr × Obj)) : Value → Int → Int → Prop
  | mk {x dx fl : Addr} {h1 h2 : Int} {t1 t2 tq tf : Tok} {req f : Int} {n nf : Nat} :
    (x, instObj 88 dx) ∈ R →
    (dx, dictOf [⟨h1, .str (Str.ofString "required") t1, .int req tq⟩, ⟨h2, .str (Str.ofString "features") t2, .ref fl⟩] n) ∈ R →
    (fl, listOf (List.toArray [.int f tf]) nf) ∈ R → LsIn R (.ref x) req f
theorem LsIn.mono {R R' : List (Addr × Obj)} {v : Value} {req f : Int} (h : LsIn R v req f) (hs : ∀ p ∈ R, p ∈ R') : LsIn R' v req f := by
  cases h with
  | mk a b c => exact .mk (hs _ a) (hs _ b) (hs _ c)
/-- what LangSys.told tells -/
abbrev lsDat (req f : Int) : Dat := .tuple [.int req, .tuple [.int f]]
/-- all that is new lies beside the old -/
def Abv (tl R : List (Addr × Obj)) : Prop := ∀ p ∈ tl, ∀ q ∈ R, q.1 ≠ p.1
theorem abv_nil {R : List (Addr × Obj)} : Abv [] R := fun _ h => nomatch h
theorem abv_cons {a : Addr} {o : Obj} {tl R : List (Addr × Obj)} (h : ∀ q ∈ R, q.1 ≠ a) (k : Abv tl R) : Abv ((a, o) :: tl) R := fun p hp q hq => by
  rcases List.mem_cons.mp hp with rfl | hp
  · exact h q hq
  · exact k p hp q hq
theorem grew_nil {R : List (Addr × Obj)} : R = [] ++ R := rfl
theorem grew_cons {p : Addr × Obj} {l tl R : List (Addr × Obj)} (h : l = tl ++ R) : p :: l = (p :: tl) ++ R := by rw [h]; rfl
theorem lt_ne {a : Addr} {l : List (Addr × Obj)} (h : ∀ p ∈ l, p.1 < a) : ∀ p ∈ l, p.1 ≠ a := fun p hp => Nat.ne_of_lt (h p hp)
theorem lt_ne1 {a : Nat} {l : List (Addr × Obj)} (h : ∀ p ∈ l, p.1 < a) : ∀ p ∈ l, p.1 ≠ a + 1 := fun p hp => Nat.ne_of_lt (Nat.lt_succ_of_lt (h p hp))
theorem off3_I {I C D : Addr} {l : List (Addr × Obj)} (h : LCg.Off3 I C D l) : ∀ p ∈ l, p.1 ≠ I := fun p hp => (h.mem p hp).1
theorem off3_C {I C D : Addr} {l : List (Addr × Obj)} (h : LCg.Off3 I C D l) : ∀ p ∈ l, p.1 ≠ C := fun p hp => (h.mem p hp).2.1
theorem off3_D {I C D : Addr} {l : List (Addr × Obj)} (h : LCg.Off3 I C D l) : ∀ p ∈ l, p.1 ≠ D := fun p hp => (h.mem p hp).2.2
theorem off1_D {D : Addr} : ∀ {l : List (Addr × Obj)}, LCg.Off1 D l → ∀ p ∈ l, p.1 ≠ D
  | [], _, _, h => nomatch h
  | _ :: _, x, p, h => by
    rcases List.mem_cons.mp h with rfl | h
    · exact x.1
    · exact off1_D x.2 p h
/-- the ledger has grown by what tells the datum -/
def Grew (R : List (Addr × Obj)) (r : Value) (d : Dat) (news' : List (Addr × Obj)) : Prop := ∃ tl, news' = tl ++ R ∧ Abv tl R ∧ DatIn tl r d
theorem grew_intro {R news' tl : List (Addr × Obj)} {r : Value} {d : Dat} (g : news' = tl ++ R) (a : Abv tl R) (h : DatIn tl r d) : Grew R r d news' := ⟨tl, g, a, h⟩

local macro_rules | `(tactic| k_memK) => `(tactic| first | assumption | exact And.right (by assumption) | exact And.right (And.right (by assumption)) | exact And.right (And.right (And.right (by assumption))) | exact And.right (And.right (And.right (And.right (by assumption)))) | exact And.right (And.right (And.right (And.right (And.right (by assumption))))) | exact And.right (And.right (And.right (And.right (And.right (And.right (by assumption)))))) | exact And.right (And.right (And.right (And.right (And.right (And.right (And.right (by assumption))))))) | exact And.right (And.right (And.right (And.right (And.right (And.right (And.right (And.right (by assumption)))))))) | exact And.right (And.right (And.right (And.right (And.right (And.right (And.right (And.right (And.right (by assumption))))))))) | exact And.right (And.right (And.right (And.right (And.right (And.right (And.right (And.right (And.right (And.right (by assumption)))))))))) | exact And.right (And.right (And.right (And.right (And.right (And.right (And.right (And.right (And.right (And.right (And.right (by assumption))))))))))) | exact And.right (And.right (And.right (And.right (And.right (And.right (And.right (And.right (And.right (And.right (And.right (And.right (by assumption)))))))))))) | exact And.right (And.right (And.right (And.right (And.right (And.right (And.right (And.right (And.right (And.right (And.right (And.right (And.right (by assumption))))))))))))) | exact And.right (And.right (And.right (And.right (And.right (And.right (And.right (And.right (And.right (And.right (And.right (And.right (And.right (And.right (by assumption)))))))))))))) | exact And.right (And.right (And.right (And.right (And.right (And.right (And.right (And.right (And.right (And.right (And.right (And.right (And.right (And.right (And.right (by assumption))))))))))))))) | exact And.right (And.right (And.right (And.right (And.right (And.right (And.right (And.right (And.right (And.right (And.right (And.right (And.right (And.right (And.right (And.right (by assumption)))))))))))))))) | exact And.right (And.right (And.right (And.right (And.right (And.right (And.right (And.right (And.right (And.right (And.right (And.right (And.right (And.right (And.right (And.right (And.right (by assumption))))))))))))))))) | exact And.right (And.right (And.right (And.right (And.right (And.right (And.right (And.right (And.right (And.right (And.right (And.right (And.right (And.right (And.right (And.right (And.right (And.right (by assumption)))))))))))))))))))
local macro_rules | `(tactic| k_all) => `(tactic| first | assumption | exact off3_I (by k_memK) | exact off3_C (by k_memK) | exact off3_D (by k_memK) | exact off1_D (by k_memK) | exact lt_ne (by assumption) | exact lt_ne1 (by assumption) | exact lt_ne (tb_ltOf (by k_memK)))
local macro_rules | `(tactic| tb_start) => `(tactic| first | exact abv_nil | ((refine' abv_cons ?ba ?bb); (case ba => k_all); (case bb => tb_start)))
local macro_rules | `(tactic| ktd_rel) => `(tactic| first | exact DatIn.none | exact DatIn.int _ _ | exact DatIn.str _ _ | exact DatAll.nil | ((refine' DatIn.tuple ?da ?db); (case da => k_mem); (case db => ktd_rel)) | ((refine' DatAll.cons ?da ?db); (case da => ktd_rel); (case db => ktd_rel)))
local macro_rules | `(tactic| tb_rel) => `(tactic| first | exact grew_nil | (refine' grew_cons ?gg; (case gg => tb_rel)))

theorem lsTold_c {prog : Program} {w : World} {p : Program} {loose : List Str} {mean : ExcName → Option Value} {mg mb : Str → Option Value} {R : List (Addr × Obj)} {v : Value} {req f : Int} (H : LsIn R v req f) :
   Con prog w (hd.heap_1 w.params) p loose mean mg mb 1 85 [v] R fun r news' => Grew R r (lsDat req f) news' := by
  intro dp un gd cn cs a ccd cl outer A₀ base h₀ L m s Q E B F X N T hk hdp hun hret
  cases H with
  | mk m1 m2 m3 =>
    refine wpAny_call ?_
    k_dflt ktr_enter
    k_steps
    refine' hret _ _ _ _ (by k_asm) (by k_asm) (grew_intro ?g ?a ?d)
    case g => tb_rel
    case a => tb_start
    case d => ktd_rel

theorem str_le_of_rising : ∀ {l : List Str} {p : Str}, risingS p l = true → (p :: l).Pairwise fun a b => a.cps.toList ≤ b.cps.toList
  | [], p, _ => List.pairwise_singleton _ _
  | x :: r, p, h => by
    have h' : (!ltCps x.cps.toList p.cps.toList && risingS x r) = true := h
    rw [Bool.and_eq_true, Bool.not_eq_true', ltCps_eq, decide_eq_false_iff_not, List.not_lt] at h'
    have ih := str_le_of_rising h'.2
    refine List.pairwise_cons.mpr ⟨fun b hb => ?_, ih⟩
    rcases List.mem_cons.mp hb with rfl | hb
    · exact h'.1
    · exact List.le_trans h'.1 ((List.pairwise_cons.mp ih).1 b hb)
theorem str_le_of_sorted : ∀ {l : List Str}, sortedS l = true → l.Pairwise fun a b => a.cps.toList ≤ b.cps.toList
  | [], _ => .nil
  | _ :: _, h => str_le_of_rising h
theorem str_of_cps {a b : Str} (h : a.cps.toList = b.cps.toList) : a = b := by
  cases a; cases b; exact congrArg Str.mk (Array.toList_inj.mp h)
theorem sortedS_uniq {a b : List Str} (p : a.Perm b) (ha : sortedS a = true) (hb : sortedS b = true) : a = b :=
  List.Perm.eq_of_pairwise (fun _ _ _ _ h1 h2 => str_of_cps (List.le_antisymm h1 h2)) (str_le_of_sorted ha) (str_le_of_sorted hb) p

section
variable {prog : Program} {w : World}
theorem strsAre_keys : ∀ {kvs : List (Str × Value)} {vs : List Value}, vs.length = kvs.length → (∀ (j : Nat) (v : Value), vs[j]? = some v → ∃ k x, kvs[j]? = some (k, x) ∧ (PySem.strKind prog w).is k v = true) → StrsAre vs (kvs.map (·.1))
  | [], [], _, _ => .nil
  | q :: r, v :: vs, hl, hv => by
    obtain ⟨k, x, e, hk⟩ := hv 0 v rfl
    simp only [List.getElem?_cons_zero, Option.some.injEq] at e
    subst e
    obtain ⟨t, rfl⟩ := Value.isStrOf_shape hk
    exact .cons k t (strsAre_keys (by simpa using hl) fun j u hu => by simpa using hv (j + 1) u (by simpa using hu))
  | [], _ :: _, hl, _ => by simp at hl
  | _ :: _, [], hl, _ => by simp at hl

variable {A : Around} {E : Value → Shared → Prop} {s : Shared} {h₀ : Heap} {L d : Addr} {m : Str → Option Value} {news R : List (Addr × Obj)} {o : Obj} {kvs : List (Str × Value)}
theorem sortedD {Q : Value → Shared → Prop} (hh : A.handled = none) (F : Fr h₀ L s.heap m) (N : News h₀ L s.heap news) (hm : (d, o) ∈ R) (hs : ∀ p ∈ R, p ∈ news) (hd : o.IsDictOf (PySem.strKind prog w) kvs) (lo : (d == sysModules) = false) (hn : kvs.length < 64)
    (h : ∀ B h' tk vs ss n, Fr h₀ L h' m → News h₀ L h' ((B, listOf (List.toArray vs) n) :: news) → (∀ q ∈ news, q.1 < B) → StrsAre vs ss → ss.Perm (kvs.map (·.1)) → sortedS ss = true → Q (.ref B) { s with heap := h', toks := tk }) :
    wpAny (model prog w) A (call (.builtin "sorted") [.ref d]) Q E s := by
  obtain ⟨ep, hat⟩ := (kda_dict N (hs _ hm) hd).dictAt
  refine kdu_sorted (kdl_dict (knd := PySem.strKind prog w) (kvs := kvs) (ep := ep) lo) hh F N hat (by rw [sizeLine_eq]; omega) fun B h' tk vs F' N' l1 hl hv => ?_
  have hS := strsAre_keys hl hv
  have hB := N' _ (.head _)
  refine PySem.wpAny_call_entry PyProof.Rows.slot_list_sort (T := "list") ⟨_, hB.1, rfl⟩ PyProof.Rows.entry_list_sort (list_sort_treeK strKind_oneLt (n := 0) hB.1 hS.keysOf (fun v₁ v₂ rest e => keyKind_strs (by rw [← e]; exact hS)) (by rw [hl]; exact hn) fun st' hp hs' => ⟨_, rfl, ?_⟩) (PyProof.Rows.args_list_sort _)
  obtain ⟨ss', a1, a2, a3⟩ := sorted_out_str hS hp hs'
  obtain ⟨e, he⟩ := sortedHeap_at (out := (arrOf st').map (·.2)) hB.1
  have old : ∀ b o, b ≠ B → h'.get? b = some o → (sortedHeap h' B vs ((arrOf st').map (·.2))).get? b = some o := fun b o hb e => by rw [sortedHeap_old hb (Heap.lt_size e)]; exact e
  refine h B _ tk ((arrOf st').map (·.2)).toList ss' e ⟨F'.ns.at' fun o e => old L o (Ne.symm hB.2.1) e, fun b o e => old b o (fun hb => by have := hB.2.2; rw [← hb, e] at this; cases this) (F'.keep b o e), F'.above⟩ (fun p hp => ?_) l1 a1 a2 a3
  rcases List.mem_cons.mp hp with rfl | hp
  · exact ⟨by rw [Array.toArray_toList]; exact he, hB.2⟩
  · have z := N' p (.tail _ hp)
    exact ⟨old _ _ (Nat.ne_of_lt (l1 p hp)) z.1, z.2⟩
end
/-- the ledger without one entry -/
inductive DropA (a : Addr) (o : Obj) : List (Addr × Obj) → List (Addr × Obj) → Prop
  | head {r} : (∀ p ∈ r, p.1 ≠ a) → DropA a o ((a, o) :: r) r
  | tail {p r r'} : p.1 ≠ a → DropA a o r r' → DropA a o (p :: r) (p :: r')
theorem DropA.spec {a : Addr} {o : Obj} : ∀ {l l' : List (Addr × Obj)}, DropA a o l l' → (a, o) ∈ l ∧ (∀ p ∈ l', p ∈ l) ∧ ∀ p ∈ l', p.1 ≠ a
  | _, _, .head h => ⟨.head _, fun _ hp => .tail _ hp, h⟩
  | _, _, .tail h r =>
    let ⟨x, y, z⟩ := r.spec
    ⟨.tail _ x, fun p hp => by rcases List.mem_cons.mp hp with rfl | hp; exact .head _; exact .tail _ (y p hp), fun p hp => by rcases List.mem_cons.mp hp with rfl | hp; exact h; exact z p hp⟩
theorem compEnd_of {h₀ : Heap} {L I C D : Addr} {m : Str → Option Value} {s₁ : Shared} {oI oC oD : Obj} {S : List (Addr × Obj) → Prop} {rest : Value → List (Addr × Obj) → Prop} {y : Value} {h' : Heap} {tk : Nat} {l0 l1 l2 l3 : List (Addr × Obj)}
    (F : Fr h₀ L h' m) (N : News h₀ L h' l0) (d1 : DropA I oI l0 l1) (d2 : DropA C oC l1 l2) (d3 : DropA D oD l2 l3) (hS : S l3) (r : rest y l3) :
    LCg.CompEnd h₀ L m s₁ I oI C oC D oD S rest y { s₁ with heap := h', toks := tk } := by
  obtain ⟨a1, b1, c1⟩ := d1.spec
  obtain ⟨a2, b2, c2⟩ := d2.spec
  obtain ⟨a3, b3, c3⟩ := d3.spec
  refine LCg.CompEnd.intro F N l3 (fun p hp => ?_) (LCg.Off3.of fun p hp => ⟨c1 p (b2 p (b3 p hp)), c2 p (b3 p hp), c3 p hp⟩) hS r
  rcases List.mem_cons.mp hp with rfl | hp
  · exact a1
  rcases List.mem_cons.mp hp with rfl | hp
  · exact b1 _ a2
  rcases List.mem_cons.mp hp with rfl | hp
  · exact b1 _ (b2 _ a3)
  · exact b1 _ (b2 _ (b3 _ hp))

/-- a script of a layout, told: its tag, its number, whether it has a default language, how many of its languages are left out (0, 1, 2) -/
structure SD where
  tag : Str
  spot : Int
  df : Bool
  k : Nat
inductive DfIn (R : List (Addr × Obj)) : Value → Int → Bool → Prop
  | none {sp : Int} : DfIn R .none sp false
  | some {v : Value} {sp : Int} : LsIn R v (-1) sp → DfIn R v sp true
inductive LgIn (R : List (Addr × Obj)) : List (Str × Value) → Int → Nat → Prop
  | two {v1 v2 : Value} {sp : Int} : LsIn R v1 sp 1 → LsIn R v2 sp 1 → LgIn R [(Str.ofString "URD ", v1), (Str.ofString "ARA ", v2)] sp 0
  | one {v2 : Value} {sp : Int} : LsIn R v2 sp 1 → LgIn R [(Str.ofString "ARA ", v2)] sp 1
  | zero {sp : Int} : LgIn R [] sp 2
inductive ScIn (prog : Program) (w : World) (R : List (Addr × Obj)) : Value → SD → Prop
  | mk {x dx lx : Addr} {h1 h2 h3 : Int} {t1 t2 t3 tt : Tok} {n : Nat} {dv : Value} {ol : Obj} {lkvs : List (Str × Value)} {D : SD} :
    (x, instObj 114 dx) ∈ R →
    (dx, dictOf [⟨h1, .str (Str.ofString "tag") t1, .str D.tag tt⟩, ⟨h2, .str (Str.ofString "default") t2, dv⟩, ⟨h3, .str (Str.ofString "languages") t3, .ref lx⟩] n) ∈ R →
    DfIn R dv D.spot D.df → (lx, ol) ∈ R → ol.IsDictOf (PySem.strKind prog w) lkvs → (lx == sysModules) = false → LgIn R lkvs D.spot D.k → ScIn prog w R (.ref x) D
theorem DfIn.mono {R R' : List (Addr × Obj)} {v : Value} {sp : Int} {b : Bool} (h : DfIn R v sp b) (hs : ∀ p ∈ R, p ∈ R') : DfIn R' v sp b := by
  cases h with
  | none => exact .none
  | some a => exact .some (a.mono hs)
theorem LgIn.mono {R R' : List (Addr × Obj)} {l : List (Str × Value)} {sp : Int} {k : Nat} (h : LgIn R l sp k) (hs : ∀ p ∈ R, p ∈ R') : LgIn R' l sp k := by
  cases h with
  | two a b => exact .two (a.mono hs) (b.mono hs)
  | one a => exact .one (a.mono hs)
  | zero => exact .zero
theorem ScIn.mono {prog : Program} {w : World} {R R' : List (Addr × Obj)} {v : Value} {D : SD} (h : ScIn prog w R v D) (hs : ∀ p ∈ R, p ∈ R') : ScIn prog w R' v D := by
  cases h with
  | mk a b c d e f g => exact .mk (hs _ a) (hs _ b) (c.mono hs) (hs _ d) e f (g.mono hs)
theorem DfIn.handed {R : List (Addr × Obj)} {v : Value} {sp : Int} {b : Bool} (h : DfIn R v sp b) : handedIn v = true := by
  cases h with
  | none => rfl
  | some a => cases a; rfl
abbrev dfDat (sp : Int) (b : Bool) : Dat := match b with
  | true => lsDat (-1) sp
  | false => .none
abbrev lgDat (sp : Int) : Nat → List Dat
  | 0 => [.tuple [.str (Str.ofString "ARA "), lsDat sp 1], .tuple [.str (Str.ofString "URD "), lsDat sp 1]]
  | 1 => [.tuple [.str (Str.ofString "ARA "), lsDat sp 1]]
  | _ => []
abbrev scDat (D : SD) : Dat := .tuple [.str D.tag, dfDat D.spot D.df, .tuple (lgDat D.spot D.k)]

theorem sorted_two {ss : List Str} {v1 v2 : Value} (p : ss.Perm ([(Str.ofString "URD ", v1), (Str.ofString "ARA ", v2)].map (·.1))) (h : sortedS ss = true) : ss = [Str.ofString "ARA ", Str.ofString "URD "] :=
  sortedS_uniq (p.trans (List.Perm.swap _ _ _)) h (by decide +kernel)
theorem sorted_one {ss : List Str} {v2 : Value} (p : ss.Perm ([(Str.ofString "ARA ", v2)].map (·.1))) (_h : sortedS ss = true) : ss = [Str.ofString "ARA "] := List.perm_singleton.mp p
theorem sorted_zero {ss : List Str} (p : ss.Perm (([] : List (Str × Value)).map (·.1))) (_h : sortedS ss = true) : ss = [] := List.perm_nil.mp p

section
variable {prog : Program} {w : World} {A : Around} {E : Value → Shared → Prop} {s : Shared} {h₀ : Heap} {L d : Addr} {m : Str → Option Value} {news R : List (Addr × Obj)} {o : Obj} {kvs : List (Str × Value)}
theorem sortedD2 {v1 v2 : Value} {Q : Value → Shared → Prop} (hh : A.handled = none) (F : Fr h₀ L s.heap m) (N : News h₀ L s.heap news) (hm : (d, o) ∈ R) (hs : ∀ p ∈ R, p ∈ news) (hd : o.IsDictOf (PySem.strKind prog w) [(Str.ofString "URD ", v1), (Str.ofString "ARA ", v2)]) (lo : (d == sysModules) = false)
    (h : ∀ B h' tk t1 t2 n, Fr h₀ L h' m → News h₀ L h' ((B, listOf (List.toArray [.str (Str.ofString "ARA ") t1, .str (Str.ofString "URD ") t2]) n) :: news) → (∀ q ∈ news, q.1 < B) → Q (.ref B) { s with heap := h', toks := tk }) :
    wpAny (model prog w) A (call (.builtin "sorted") [.ref d]) Q E s :=
  sortedD hh F N hm hs hd lo (Nat.le_of_ble_eq_true rfl) fun B h' tk vs ss n F' N' l1 S p q => by
    have e := sorted_two p q
    subst e
    cases S with
    | cons _ t1 S => cases S with
      | cons _ t2 S => cases S; exact h B h' tk t1 t2 n F' N' l1
theorem sortedD1 {v2 : Value} {Q : Value → Shared → Prop} (hh : A.handled = none) (F : Fr h₀ L s.heap m) (N : News h₀ L s.heap news) (hm : (d, o) ∈ R) (hs : ∀ p ∈ R, p ∈ news) (hd : o.IsDictOf (PySem.strKind prog w) [(Str.ofString "ARA ", v2)]) (lo : (d == sysModules) = false)
    (h : ∀ B h' tk t1 n, Fr h₀ L h' m → News h₀ L h' ((B, listOf (List.toArray [.str (Str.ofString "ARA ") t1]) n) :: news) → (∀ q ∈ news, q.1 < B) → Q (.ref B) { s with heap := h', toks := tk }) :
    wpAny (model prog w) A (call (.builtin "sorted") [.ref d]) Q E s :=
  sortedD hh F N hm hs hd lo (Nat.le_of_ble_eq_true rfl) fun B h' tk vs ss n F' N' l1 S p q => by
    have e := sorted_one p q
    subst e
    cases S with
    | cons _ t1 S => cases S; exact h B h' tk t1 n F' N' l1
theorem sortedD0 {Q : Value → Shared → Prop} (hh : A.handled = none) (F : Fr h₀ L s.heap m) (N : News h₀ L s.heap news) (hm : (d, o) ∈ R) (hs : ∀ p ∈ R, p ∈ news) (hd : o.IsDictOf (PySem.strKind prog w) []) (lo : (d == sysModules) = false)
    (h : ∀ B h' tk n, Fr h₀ L h' m → News h₀ L h' ((B, listOf (List.toArray []) n) :: news) → (∀ q ∈ news, q.1 < B) → Q (.ref B) { s with heap := h', toks := tk }) :
    wpAny (model prog w) A (call (.builtin "sorted") [.ref d]) Q E s :=
  sortedD hh F N hm hs hd lo (Nat.le_of_ble_eq_true rfl) fun B h' tk vs ss n F' N' l1 S p q => by
    have e := sorted_zero p q
    subst e
    cases S; exact h B h' tk n F' N' l1
end

abbrev langs (k : Nat) : List Str := [Str.ofString "URD ", Str.ofString "ARA "].drop k
theorem LgIn.keys {R : List (Addr × Obj)} {l : List (Str × Value)} {sp : Int} {k : Nat} (h : LgIn R l sp k) : l.map (·.1) = langs k := by
  cases h <;> rfl
theorem LgIn.len {R : List (Addr × Obj)} {l : List (Str × Value)} {sp : Int} {k : Nat} (h : LgIn R l sp k) : l.length ≤ 2 := by
  cases h <;> simp
theorem perm_val {lkvs : List (Str × Value)} {lg : Str} (h : lg ∈ lkvs.map (·.1)) : ∃ v, valueAt lkvs lg = some v := by
  cases hv : valueAt lkvs lg with
  | some v => exact ⟨v, rfl⟩
  | none =>
    have := valueAt_isSome_eq_any lkvs lg
    rw [hv] at this
    obtain ⟨p, hp, e⟩ := List.mem_map.mp h
    have : lkvs.any (fun kv => kv.1 = lg) = true := List.any_eq_true.mpr ⟨p, hp, by simpa using e⟩
    simp_all
theorem strs_len {vs : List Value} {ss : List Str} (h : StrsAre vs ss) : vs.length = ss.length := by
  induction h with
  | nil => rfl
  | cons _ _ _ ih => simp [ih]
theorem key_of_some {kvs : List (Str × Value)} {k : Str} (h : (valueAt kvs k).isSome = true) : k ∈ kvs.map (·.1) := by
  rw [valueAt_isSome_eq_any] at h
  obtain ⟨p, hp, e⟩ := List.any_eq_true.mp h
  exact List.mem_map.mpr ⟨p, hp, by simpa using e⟩
theorem datAll_snoc {W : List (Addr × Obj)} {vs : List Value} {ds : List Dat} {v : Value} {d : Dat} (h : DatAll W vs ds) (k : DatIn W v d) : DatAll W (vs ++ [v]) (ds ++ [d]) := by
  match h with
  | .nil => exact .cons k .nil
  | .cons a r => exact .cons a (datAll_snoc r k)
theorem LgIn.get {R : List (Addr × Obj)} {l : List (Str × Value)} {sp : Int} {k : Nat} {lg : Str} {v : Value} (h : LgIn R l sp k) (hv : valueAt l lg = some v) : LsIn R v sp 1 := by
  cases h with
  | two a b =>
    by_cases e : Str.ofString "URD " = lg
    · simp [valueAt, e] at hv; rw [← hv]; exact a
    · by_cases e2 : Str.ofString "ARA " = lg
      · simp [valueAt, e, e2] at hv; rw [← hv]; exact b
      · simp [valueAt, e, e2] at hv
  | one b =>
    by_cases e2 : Str.ofString "ARA " = lg
    · simp [valueAt, e2] at hv; rw [← hv]; exact b
    · simp [valueAt, e2] at hv
  | zero => simp [valueAt] at hv
section
open LCg
variable {prog : Program} {w : World} {A : Around} {E : Value → Shared → Prop} {s : Shared} {h₀ : Heap} {L : Addr} {m : Str → Option Value} {env : Env}
/-- a comprehension by an invariant -/
theorem comp_inv {elt : Expr} {x : Str} {scope : Scope} {cl : List (Str × Addr)} {S : List (Addr × Obj) → Prop} {P : Nat → Value → Prop} {Fin : List Value → List (Addr × Obj) → Prop} {n : Nat} {news : List (Addr × Obj)}
    (Inv : Nat → List Value → List (Addr × Obj) → Prop) (h0 : Inv 0 [] news)
    (turn : ∀ i ys nw v I oI C oC D m₂ h tk (E' : Value → Shared → Prop), i < n → Inv i ys nw → P i v → NsObj oC m₂ → m₂ x = some v → Fr h₀ L h m → News h₀ L h ((I, oI) :: (C, oC) :: (D, lst ys) :: nw) → Off3 I C D nw → ((@Ne Nat I C) ∧ (@Ne Nat I D) ∧ (@Ne Nat C D)) →
      wpAny (model prog w) A (eval elt (compEnvC scope cl C env)) (CompEnd h₀ L m { s with heap := h, toks := tk } I oI C oC D (lst ys) S (fun y nw' => Inv (i + 1) (ys ++ [y]) nw')) E' { s with heap := h, toks := tk })
    (fin : ∀ ys nw, Inv n ys nw → Fin ys nw) : CompRest prog w A h₀ L m env elt x scope cl s S P Fin n 0 [] news := by
  have key : ∀ (j i : Nat) (ys : List Value) nw, i + j = n → Inv i ys nw → CompRest prog w A h₀ L m env elt x scope cl s S P Fin j i ys nw := by
    intro j
    induction j with
    | zero =>
      intro i ys nw hi hI
      obtain rfl : i = n := hi
      exact CompRest.zero (fin ys nw hI)
    | succ j ih =>
      intro i ys nw hi hI
      refine CompRest.succ fun v I oI C oC D m₂ h tk E' hv hC hx F N off ne => ?_
      refine wpAny_mono (turn i ys nw v I oI C oC D m₂ h tk E' (by omega) hI hv hC hx F N off ne) (fun y s₂ hq => ?_) fun _ _ e => e
      obtain ⟨h', tk', nw', e, F', N', off', hS, hn⟩ := hq
      exact ⟨h', tk', nw', e, F', N', off', hS, ih (i + 1) _ _ (by omega) hn⟩
  exact key n 0 [] news (Nat.zero_add n) h0
end
section
variable {prog : Program} {w : World} {p : Program} {loose : List Str} {mean : ExcName → Option Value} {mg mb : Str → Option Value}
    {dp un : Nat} {gd : Option (List Code)} {cn : Str} {cs : Scope} {a : Addr} {ccd : Value} {cl : List (Str × Addr)} {outer : List Env} {A₀ : Around} {base h₀ : Heap} {L : Addr} {m : Str → Option Value} {s : Shared} {Q E : Value → Shared → Prop} {news R : List (Addr × Obj)}
theorem con_lstold {v : Value} {req f : Int} (B : Below A₀ base outer h₀) (F : Fr h₀ L s.heap m) (X : (hd.heap_1 w.params).In h₀) (N : News h₀ L s.heap news) (T : Top p loose mean mg mb h₀) (hk : cs.kind = .function)
    (H : LsIn R v req f) (hs : ∀ p ∈ R, p ∈ news) (hd : dp + 10 < 900) (hu : un + 100 < 9000)
    (ret : ∀ a tl h' tk', Fr h₀ L h' m → News h₀ L h' (tl ++ news) → Abv tl news → DatIn tl (.ref a) (lsDat req f) → Q (.ref a) { s with heap := h', toks := tk' }) :
    wpAny (model prog w) (ktrTop dp un gd cn cs L a ccd cl outer) (call (.ref 85) [v]) Q E s :=
  con_use B F X N T hk (lsTold_c (H.mono hs)) hd hu fun r news' h' tk' F' N' hr => by
    obtain ⟨tl, rfl, ha, hd⟩ := hr
    cases hd with
    | tuple m1 m2 => exact ret _ tl h' tk' F' N' ha (.tuple m1 m2)
end
section
open LCg
/-- how an element that is told ends -/
def ToldEnd (h₀ : Heap) (L : Addr) (m : Str → Option Value) (l : List (Addr × Obj)) (d : Dat) (s₁ : Shared) (y : Value) (s₂ : Shared) : Prop :=
  ∃ tl h' tk', s₂ = { s₁ with heap := h', toks := tk' } ∧ Fr h₀ L h' m ∧ News h₀ L h' (tl ++ l) ∧ Abv tl l ∧ DatIn tl y d
theorem strs_get {vs : List Value} {ss : List Str} (h : StrsAre vs ss) : ∀ {i : Nat} {v : Value}, vs[i]? = some v → ∃ k t, v = .str k t ∧ ss[i]? = some k := by
  induction h with
  | nil => intro i v h; simp at h
  | cons k t _ ih =>
    intro i v h
    cases i with
    | zero => exact ⟨k, t, by simpa using h.symm, rfl⟩
    | succ i => exact ih (by simpa using h)
theorem abv_sub {tl l l' : List (Addr × Obj)} (h : Abv tl l) (hs : ∀ p ∈ l', p ∈ l) : Abv tl l' := fun p hp q hq => h p hp q (hs q hq)
theorem abv_app {tl tl' l : List (Addr × Obj)} (h : Abv tl l) (h' : Abv tl' l) : Abv (tl ++ tl') l := fun p hp => (List.mem_append.mp hp).elim (h p) (h' p)
variable {prog : Program} {w : World} {A : Around} {E : Value → Shared → Prop} {s : Shared} {h₀ : Heap} {L : Addr} {m : Str → Option Value} {env : Env}
theorem told_rest {elt : Expr} {x : Str} {scope : Scope} {cl : List (Str × Addr)} {Fin : List Value → List (Addr × Obj) → Prop} {B : Addr} {vs : List Value} {ss : List Str} {nB : Nat} {base : List (Addr × Obj)} (g : Str → Dat)
    (hS : StrsAre vs ss) (hB : (B, listOf (List.toArray vs) nB) ∈ base)
    (turn : ∀ k t I oI C oC D m₂ h tk ys nw (E' : Value → Shared → Prop), k ∈ ss → NsObj oC m₂ → m₂ x = some (.str k t) → Fr h₀ L h m → News h₀ L h ((I, oI) :: (C, oC) :: (D, lst ys) :: nw) → (∀ p ∈ base, p ∈ nw) → Off3 I C D nw → ((@Ne Nat I C) ∧ (@Ne Nat I D) ∧ (@Ne Nat C D)) →
      wpAny (model prog w) A (eval elt (compEnvC scope cl C env)) (ToldEnd h₀ L m ((I, oI) :: (C, oC) :: (D, lst ys) :: nw) (g k) { s with heap := h, toks := tk }) E' { s with heap := h, toks := tk })
    (fin : ∀ ys tl, Abv tl base → DatAll tl ys (ss.map g) → Fin ys (tl ++ base)) :
    CompRest prog w A h₀ L m env elt x scope cl s (SrcAt h₀ B (List.toArray vs)) (fun i v => (List.toArray vs)[i]? = some v) Fin (List.toArray vs).size 0 [] base := by
  refine comp_inv (fun i ys nw => ∃ tl, nw = tl ++ base ∧ Abv tl base ∧ DatAll tl ys ((ss.take i).map g)) ⟨[], rfl, abv_nil, .nil⟩ ?_ ?_
  · rintro i ys nw v I oI C oC D m₂ h tk E' hi ⟨tl, rfl, hAb, hDt⟩ hP hC hx F N off ne
    rw [List.getElem?_toArray] at hP
    obtain ⟨k, t, rfl, hk⟩ := strs_get hS hP
    refine wpAny_mono (turn k t I oI C oC D m₂ h tk ys (tl ++ base) E' (List.mem_of_getElem? hk) hC hx F N (fun p hp => List.mem_append_right _ hp) off ne) (fun y s₂ hq => ?_) fun _ _ e => e
    obtain ⟨tl', h', tk', rfl, F', N', hA', hD'⟩ := hq
    refine CompEnd.intro F' N' (tl' ++ (tl ++ base)) (fun p hp => ?_) (Off3.of fun p hp => ?_) (.inr ⟨_, List.mem_append_right _ (List.mem_append_right _ hB), rfl, _, rfl⟩) ⟨tl' ++ tl, (List.append_assoc ..).symm, abv_app (abv_sub hA' fun p hp => .tail _ (.tail _ (.tail _ (List.mem_append_right _ hp)))) hAb, ?_⟩
    · rcases List.mem_cons.mp hp with rfl | hp
      · exact List.mem_append_right _ (.head _)
      rcases List.mem_cons.mp hp with rfl | hp
      · exact List.mem_append_right _ (.tail _ (.head _))
      rcases List.mem_cons.mp hp with rfl | hp
      · exact List.mem_append_right _ (.tail _ (.tail _ (.head _)))
      rcases List.mem_append.mp hp with hp | hp
      · exact List.mem_append_left _ hp
      · exact List.mem_append_right _ (.tail _ (.tail _ (.tail _ hp)))
    · rcases List.mem_append.mp hp with hp | hp
      · exact ⟨Ne.symm (hA' p hp _ (.head _)), Ne.symm (hA' p hp _ (.tail _ (.head _))), Ne.symm (hA' p hp _ (.tail _ (.tail _ (.head _))))⟩
      · exact off.mem p hp
    · rw [List.take_add_one, hk, List.map_append]
      exact datAll_snoc (hDt.mono fun p hp => List.mem_append_right _ hp) (hD'.mono fun p hp => List.mem_append_left _ hp)
  · rintro ys nw ⟨tl, rfl, hAb, hDt⟩
    rw [List.size_toArray, strs_len hS, List.take_length] at hDt
    exact fin ys tl hAb hDt
end
theorem comp_size {vs : List Value} {ss : List Str} {kvs : List (Str × Value)} (hS : StrsAre vs ss) (hP : ss.Perm (kvs.map (·.1))) (hl : kvs.length ≤ 10) : (List.toArray vs).size ≤ sizeLine := by
  rw [List.size_toArray, sizeLine_eq, strs_len hS, hP.length_eq, List.length_map]; omega
theorem told_tup {h₀ h' : Heap} {L T : Addr} {m : Str → Option Value} {s₁ : Shared} {tk n : Nat} {k : Str} {t : Tok} {v : Value} {d : Dat} {tl l : List (Addr × Obj)} (F : Fr h₀ L h' m)
    (N : News h₀ L h' ((T, ({ cls := .type "tuple", data := .seq (List.toArray [.str k t, v]) n } : Obj)) :: (tl ++ l))) (hT : ∀ q ∈ tl ++ l, q.1 ≠ T) (Ab : Abv tl l) (Dt : DatIn tl v d) :
    ToldEnd h₀ L m l (.tuple [.str k, d]) s₁ (.ref T) { s₁ with heap := h', toks := tk } :=
  ⟨_ :: tl, h', tk, rfl, F, N, abv_cons (fun q hq => hT q (List.mem_append_right _ hq)) Ab, .tuple (.head _) (.cons (.str _ _) (.cons (Dt.mono fun p hp => .tail _ hp) .nil))⟩
theorem lg_sorted {R : List (Addr × Obj)} {l : List (Str × Value)} {sp : Int} {k : Nat} {ss : List Str} (h : LgIn R l sp k) (hP : ss.Perm (l.map (·.1))) (hO : sortedS ss = true) : ss.map (fun g => Dat.tuple [.str g, lsDat sp 1]) = lgDat sp k := by
  cases h with
  | two a b => rw [sorted_two hP hO]; rfl
  | one b => rw [List.perm_singleton.mp hP]; rfl
  | zero => rw [List.perm_nil.mp hP]; rfl
theorem sub_cons {a : Addr × Obj} {l nw : List (Addr × Obj)} (h : ∀ p ∈ a :: l, p ∈ nw) : ∀ p ∈ l, p ∈ nw := fun p hp => h p (.tail _ hp)
theorem datAll_len {W : List (Addr × Obj)} : ∀ {vs : List Value} {ds : List Dat}, DatAll W vs ds → vs.length = ds.length
  | _, _, .nil => rfl
  | _, _, .cons _ r => by rw [List.length_cons, List.length_cons, datAll_len r]
theorem told_grow {h₀ h' : Heap} {L T3 TR : Addr} {o3 oR : Obj} {R tl tlD all : List (Addr × Obj)} (N : News h₀ L h' all) (s3 : (T3, o3) ∈ all) (sD : ∀ p ∈ tlD, p ∈ all) (sR : (TR, oR) ∈ all) (st : ∀ p ∈ tl, p ∈ all) (sr : ∀ p ∈ R, p ∈ all) :
    News h₀ L h' (((T3, o3) :: (tlD ++ (TR, oR) :: tl)) ++ R) := news_drop N fun p hp => by
  rcases List.mem_append.mp hp with hp | hp
  · rcases List.mem_cons.mp hp with rfl | hp
    · exact s3
    rcases List.mem_append.mp hp with hp | hp
    · exact sD p hp
    rcases List.mem_cons.mp hp with rfl | hp
    · exact sR
    · exact st p hp
  · exact sr p hp
theorem told_done {T3 TR : Addr} {n3 nR : Nat} {R tl tlD : List (Addr × Obj)} {tag : Str} {tt : Tok} {dv : Value} {d : Dat} {ys : List Value} {ds : List Dat} (a3 : ∀ q ∈ R, q.1 ≠ T3) (aR : ∀ q ∈ R, q.1 ≠ TR) (aD : Abv tlD R) (at' : Abv tl R) (hd : DatIn tlD dv d) (hy : DatAll tl ys ds) :
    Grew R (.ref T3) (.tuple [.str tag, d, .tuple ds]) (((T3, ({ cls := .type "tuple", data := .seq (List.toArray [.str tag tt, dv, .ref TR]) n3 } : Obj)) :: (tlD ++ (TR, ({ cls := .type "tuple", data := .seq (List.toArray ys) nR } : Obj)) :: tl)) ++ R) :=
  ⟨_, rfl, abv_cons a3 (abv_app aD (abv_cons aR at')), .tuple (.head _) (.cons (.str _ _) (.cons (hd.mono fun p hp => .tail _ (List.mem_append_left _ hp)) (.cons (.tuple (.tail _ (List.mem_append_right _ (.head _))) (hy.mono fun p hp => .tail _ (List.mem_append_right _ (.tail _ hp)))) .nil)))⟩
theorem led_tail {h₀ h : Heap} {L : Addr} {d a b : Addr × Obj} {tl R : List (Addr × Obj)} (_ : News h₀ L h (d :: (tl ++ a :: b :: R))) : b ∈ tl ++ a :: b :: R ∧ ∀ p ∈ R, p ∈ tl ++ a :: b :: R :=
  ⟨List.mem_append_right _ (.tail _ (.head _)), fun _ hp => List.mem_append_right _ (.tail _ (.tail _ hp))⟩

local macro_rules | `(tactic| ktn_open) => `(tactic| first | ktr_enter | (refine' code_defC ?k1 ?k2 ?k3 ?k4 ?k5 ?kA ?kF ?kK ?k6 ?k7 ?k8 ?k9 ?kB ?kD ?_ ?c2 ?c3 ?c4; (case kA => exact rfl); (case kF => exact rfl); (case kK => first | assumption | exact rfl); (case k1 => k_asm); (case k2 => k_asm); (case k3 => k_asm); (case k4 => k_asm); (case k5 => k_asm); (case k6 => k_is); (case k7 => k_is); (case k8 => k_room); (case k9 => exact BindsTo.of_eq rfl); (case kB => exact rfl); (case kD => decide +kernel); (case c2 => exact rfl); (case c3 => exact rfl); (case c4 => exact rfl); k_whole; intro g' L' h' tk' cells' FG' F' N' Y' B' X' T' l1; (try k_lt l1); k_cells Y'; (try simp only [List.cons_append, List.nil_append] at N'); (try dsimp only); (try k_lift B'); (try k_fold)))
local macro_rules | `(tactic| walk_at "call builtin:sorted") => `(tactic| (ktd_call (Value.builtin _) [Value.ref _]; k_dflt (refine' sortedD ?kh ?kF ?kN ?km (fun _ hp => hp) ?kd ?kl ?kz ?_; (case kh => exact rfl); (case kF => k_asm); (case kN => k_asm); (case km => k_mem); (case kd => assumption); (case kl => assumption); (case kz => omega); intro B' h' tk' vs' ss' n' F' N' l1 hS' hP' hO'; (try k_lt l1); (try k_sweep))))
local macro_rules | `(tactic| walk_at "call ref") => `(tactic| ((try dsimp only [List.cons_append, List.nil_append]); ktd_call (Value.ref 85) [_]; k_search con_lstold; intro a' tl' h' tk' F' N' hAb' hDt'; (try k_sweep); (try dsimp only); (try k_fold)))
local macro_rules | `(tactic| walk_at "subscriptTail") => `(tactic| (k_here; (with_reducible show wpAny _ _ (subscriptTail _ _ (Value.ref _) (Value.str _ _)) _ _ _); k_dflt (refine' kda_item (knd := PySem.strKind _ _) ?kN ?km ?kd (strKind_is _ _ _ _) ?kl ?_ ?k2; (case kN => k_asm); (case km => k_mem); (case kd => assumption); (case kl => first | assumption | rfl); (case k2 => with_unfolding_all rfl))))
local macro_rules | `(tactic| ktr_unf) => `(tactic| first | (refine' DropA.head ?dh; (case dh => k_all)) | (refine' DropA.tail ?dn ?dt; (case dn => k_ne); (case dt => ktr_unf)))
local macro_rules | `(tactic| walk_at "CompEnd") => `(tactic| (k_dflt (refine' compEnd_of ?kF ?kN ?d1 ?d2 ?d3 ?kS ?_; (case kF => k_asm); (case kN => k_asm); (case d1 => ktr_unf); (case d2 => ktr_unf); (case d3 => ktr_unf); (case kS => exact Or.inr ⟨_, by k_mem, rfl, _, rfl⟩))))
local macro_rules | `(tactic| walk_at "eval ListComp") => `(tactic| (k_here; lcf_look; k_dflt (refine LCg.ListComp_U (F₀ := by k_asm) (by with_unfolding_all rfl) (by decide) (by rfl) (by decide) (by rfl) ?_)))
local macro_rules | `(tactic| walk_at "CompSrc") => `(tactic| (k_here; k_dflt (refine' LCg.CompSrc.ledger (by rfl) ?F ?N ?m ?z ?_; (case F => k_asm); (case N => k_asm); (case m => k_mem); (case z => (rename StrsAre _ _ => hS9; rename List.Perm _ _ => hPm9; refine comp_size hS9 hPm9 ?_; first | assumption | omega))); intro g'))
local macro_rules | `(tactic| k_handed) => `(tactic| exact DfIn.handed (by assumption))

theorem told_c {prog : Program} {w : World} {p : Program} {loose : List Str} {mean : ExcName → Option Value} {mg mb : Str → Option Value} {R : List (Addr × Obj)} {v : Value} {D : SD} (H : ScIn prog w R v D) :
   Con prog w (hd.heap_1 w.params) p loose mean mg mb 2 111 [v] R fun r news' => Grew R r (scDat D) news' := by
  intro dp un gd cn cs a ccd cl outer A₀ base h₀ L m s Q E B F X N T hk hdp hun hret
  obtain ⟨tag, spot, df, k⟩ := D
  cases H with
  | mk m1 m2 hdf m3 hol lo hlg =>
    dsimp only at m2 hdf hlg
    have hlen := hlg.len
    refine wpAny_call ?_
    k_dflt ktn_open
    k_steps
    rename StrsAre _ _ => hS
    rename List.Perm _ _ => hPm
    rename sortedS _ = true => hO
    (rename Fr _ _ _ _ => F1); (rename News _ _ _ _ => N1)
    refine told_rest (fun l => .tuple [.str l, lsDat spot 1]) hS (.head _) ?_ ?_
    · intro k t I oI C oC D m₂ h tk ys nw E' hk2 hC hx F3 N3 hsub off ne
      clear F1 N1 F N
      have hself := hsub _ (.tail _ (.head _))
      have hsubR := sub_cons (sub_cons hsub)
      obtain ⟨lv, hlv⟩ := perm_val (hPm.mem_iff.mp hk2)
      have hls := (hlg.get hlv).mono hsubR
      have hls2 := hls
      replace m1 := hsubR _ m1
      replace m2 := hsubR _ m2
      replace m3 := hsubR _ m3
      cases hls
      k_steps
      exact told_tup (by k_asm) (by k_asm) (lt_ne (by assumption)) (by assumption) (by assumption)
    · intro ys tl hAb hDt
      clear F1 N1
      rw [lg_sorted hlg hPm hO] at hDt
      unfold LCg.FinE
      intro D hD tkD F4 N4 off4
      have hz : ys.length ≤ 1000 := by
        have e1 := datAll_len hDt
        have e2 : (lgDat spot k).length ≤ 2 := by rcases k with _ | _ | k <;> simp [lgDat]
        omega
      obtain ⟨hself, hs4⟩ := led_tail N4
      iterate 1 (first | (k_unfold; (try dsimp only)) | walk1 | (dsimp only; walk1) | (leave1; try dsimp only))
      k_dflt (refine' kde_tupleOf (zs := ys) ?F ?N ?l ?z ?e ?_)
      case F => k_asm
      case N => k_asm
      case l => exact led_list N4 (.head _) fun _ hp => hp
      case z => rw [List.size_toArray]; omega
      case e => rfl
      intro TR h5 F5 N5 l5
      clear N4 F4
      replace m1 := hs4 _ m1
      replace m2 := hs4 _ m2
      replace m3 := hs4 _ m3
      replace hdf := hdf.mono hs4
      cases hdf with
      | none =>
        k_steps
        (rename Fr h₀ L _ m => F6); (rename News h₀ L _ _ => N6)
        rename _ ∧ _ ∧ AllLt _ _ => l1
        exact hret _ _ _ _ F6 (told_grow (tlD := []) N6 (.head _) (fun _ h => nomatch h) (.tail _ (.head _)) (fun p hp => .tail _ (.tail _ (.tail _ (List.mem_append_left _ hp)))) (fun p hp => .tail _ (.tail _ (.tail _ (hs4 p hp)))))
          (told_done (fun q hq => Nat.ne_of_lt (penLt l1.2.2 q (hs4 q hq))) (fun q hq => Nat.ne_of_lt (l5 q (.tail _ (hs4 q hq)))) abv_nil (abv_sub hAb fun p hp => .tail _ (.tail _ hp)) .none hDt)
      | some hls =>
        have hls2 := hls
        cases hls
        k_steps
        (rename Fr h₀ L _ m => F6); (rename News h₀ L _ _ => N6)
        rename_i hAb2 hDt2 _ _ _ _ l1 _ _
        exact hret _ _ _ _ F6 (told_grow N6 (.head _) (fun p hp => .tail _ (List.mem_append_left _ hp)) (.tail _ (List.mem_append_right _ (.head _))) (fun p hp => .tail _ (List.mem_append_right _ (.tail _ (.tail _ (List.mem_append_left _ hp))))) (fun p hp => .tail _ (List.mem_append_right _ (.tail _ (.tail _ (hs4 p hp))))))
          (told_done (fun q hq => Nat.ne_of_lt (l1 q (List.mem_append_right _ (.tail _ (.tail _ (hs4 q hq)))))) (fun q hq => Nat.ne_of_lt (l5 q (.tail _ (hs4 q hq)))) (abv_sub hAb2 fun p hp => .tail _ (.tail _ (hs4 p hp))) (abv_sub hAb fun p hp => .tail _ (.tail _ hp)) hDt2 hDt)

inductive LyIn (prog : Program) (w : World) (R : List (Addr × Obj)) : Value → List (Str × Value) → Prop
  | mk {y dy d fa la : Addr} {h1 h2 h3 : Int} {t1 t2 t3 : Tok} {n : Nat} {o : Obj} {kvs : List (Str × Value)} :
    (y, instObj 140 dy) ∈ R →
    (dy, dictOf [⟨h1, .str (Str.ofString "scripts") t1, .ref d⟩, ⟨h2, .str (Str.ofString "features") t2, .ref fa⟩, ⟨h3, .str (Str.ofString "lookups") t3, .ref la⟩] n) ∈ R →
    (d, o) ∈ R → o.IsDictOf (PySem.strKind prog w) kvs → (d == sysModules) = false → LyIn prog w R (.ref y) kvs
theorem LyIn.mono {prog : Program} {w : World} {R R' : List (Addr × Obj)} {v : Value} {kvs : List (Str × Value)} (h : LyIn prog w R v kvs) (hs : ∀ p ∈ R, p ∈ R') : LyIn prog w R' v kvs := by
  cases h with
  | mk a b c d e => exact .mk (hs _ a) (hs _ b) (hs _ c) d e
/-- what choose_script gives back -/
def firstOf (kvs : List (Str × Value)) : List Str → Value
  | [] => .none
  | t :: r => match valueAt kvs t with
    | some v => v
    | none => firstOf kvs r
abbrev fb : List Str := [Str.ofString "DFLT", Str.ofString "dflt", Str.ofString "latn"]
section
variable {prog : Program} {w : World} {A : Around} {E : Value → Shared → Prop} {s : Shared} {K : Frag} {h₀ : Heap} {L : Addr} {m : Str → Option Value} {news R : List (Addr × Obj)} {la a b : Addr} {vs ws : List Value} {n n1 n2 : Nat}
theorem led_copy {Q : Value → Shared → Prop} (F : Fr h₀ L s.heap m) (N : News h₀ L s.heap news) (hm : (la, listOf (List.toArray vs) n) ∈ R) (hs : ∀ p ∈ R, p ∈ news) (hz : vs.length ≤ 1000)
    (h : ∀ D c h', Fr h₀ L h' m → News h₀ L h' ((D, listOf (List.toArray vs) c) :: news) → (∀ q ∈ news, q.1 < D) → Q (.ref D) { s with heap := h' }) :
    wpAny (model prog w) A (call (.type "list") [.ref la]) Q E s :=
  list_copyK F N (led_list N hm hs) h (by rw [List.size_toArray, sizeLine_eq]; omega)
theorem top_copy {t : Addr} {od : Option Addr} {sl : Array (Option Value)} {ep : Nat} {Q : Value → Shared → Prop} (F : Fr h₀ L s.heap m) (X : K.In h₀) (N : News h₀ L s.heap news) (e : K.lookup t = some ⟨.type "tuple", od, .seq (List.toArray vs) ep, sl⟩) (hz : vs.length ≤ 1000)
    (h : ∀ D c h', Fr h₀ L h' m → News h₀ L h' ((D, listOf (List.toArray vs) c) :: news) → (∀ q ∈ news, q.1 < D) → Q (.ref D) { s with heap := h' }) :
    wpAny (model prog w) A (call (.type "list") [.ref t]) Q E s :=
  list_copyKT F N ⟨_, F.keep _ _ (X _ _ e), rfl, _, rfl⟩ h (by rw [List.size_toArray, sizeLine_eq]; omega)
theorem led_add {Q : Value → Shared → Prop} (F : Fr h₀ L s.heap m) (N : News h₀ L s.heap news) (h1 : (a, listOf (List.toArray vs) n1) ∈ news) (h2 : (b, listOf (List.toArray ws) n2) ∈ news) (hz : vs.length ≤ 1000) (hz2 : ws.length ≤ 1000)
    (h : ∀ D h', Fr h₀ L h' m → News h₀ L h' ((D, listOf (List.toArray (vs ++ ws)) 0) :: news) → (∀ q ∈ news, q.1 < D) → Q (.ref D) { s with heap := h' }) :
    wpAny (model prog w) A (binaryOp .Add (.ref a) (.ref b)) Q E s :=
  add_lists (hsz := by rw [sizeLine_eq]; omega) F N (led_list (R := news) N h1 fun _ hp => hp) (led_list (R := news) N h2 fun _ hp => hp) fun h' F' N' => h _ h' F' N' fun q hq => Heap.lt_size (N q hq).1
end
def LoopEnd {σ : Type} (h₀ : Heap) (L : Addr) (lp : Addr × Obj) (fr : σ → Str → Option Value) (Inv : List Value → σ → List (Addr × Obj) → Prop) (s₁ : Shared) (I : Addr) (it : Obj) (r : List Value) (s₂ : Shared) : Prop :=
  ∃ h' tk c' news', s₂ = { s₁ with heap := h', toks := tk } ∧ Fr h₀ L h' (fr c') ∧ News h₀ L h' ((I, it) :: news') ∧ (∀ p ∈ news', p.1 ≠ I) ∧ lp ∈ news' ∧ Inv r c' news'
/-- how a turn of a loop over a list of the ledger ends -/
def LoopPost {σ : Type} (h₀ : Heap) (L : Addr) (lp : Addr × Obj) (fr : σ → Str → Option Value) (Inv : List Value → σ → List (Addr × Obj) → Prop) (s₁ : Shared) (I : Addr) (it : Obj) (r : List Value) (Q : Flow → Shared → Prop) (f : Flow) (s₂ : Shared) : Prop :=
  match f with
  | .ret v => Q (.ret v) s₂
  | .brk => Q .next s₂
  | _ => LoopEnd h₀ L lp fr Inv s₁ I it r s₂
section
variable {prog : Program} {w : World} {A : Around} {E : Value → Shared → Prop} {s : Shared} {env : Env} {h₀ : Heap} {x : Str} {body : List Stmt} {Q : Flow → Shared → Prop} {σ : Type}
theorem list_rest (fr : σ → Str → Option Value) (Inv : List Value → σ → List (Addr × Obj) → Prop) {I : Addr} {lp : Addr × Obj}
    (turn : ∀ v r c news₁ it h tk, Inv (v :: r) c news₁ → lp ∈ news₁ → it.cls = .type "list_iterator" → (∀ p ∈ news₁, p.1 ≠ I) → Fr h₀ env.locals h (fun y => if y = x then some v else fr c y) → News h₀ env.locals h ((I, it) :: news₁) →
      wpAny (model prog w) A (execs body env) (LoopPost h₀ env.locals lp fr Inv { s with heap := h, toks := tk } I it r Q) E { s with heap := h, toks := tk })
    (done : ∀ c news₁ h tk, Inv [] c news₁ → Fr h₀ env.locals h (fr c) → News h₀ env.locals h news₁ → Q .next { s with heap := h, toks := tk }) :
    ∀ vs c news, Inv vs c news → lp ∈ news → (∀ p ∈ news, p.1 ≠ I) → ListRest prog w A E h₀ env x body Q s I lp vs (fr c) news
  | [], c, news, hI, _, _ => ListRest.zero fun h tk F N => done c news h tk hI F N
  | v :: r, c, news, hI, hlp, hoff => ListRest.succ fun it h tk hc F N => by
    refine wpAny_mono (turn v r c news it h tk hI hlp hc hoff F N) (fun f s₂ hp => ?_) fun _ _ e => e
    have fin : (∃ h' tk' c' news', s₂ = { { s with heap := h, toks := tk } with heap := h', toks := tk' } ∧ Fr h₀ env.locals h' (fr c') ∧ News h₀ env.locals h' ((I, it) :: news') ∧ (∀ p ∈ news', p.1 ≠ I) ∧ lp ∈ news' ∧ Inv r c' news') →
        UnrEnd h₀ env.locals { s with heap := h, toks := tk } I it (fun m' n' => lp ∈ n' ∧ ListRest prog w A E h₀ env x body Q s I lp r m' n') s₂ := by
      rintro ⟨h', tk', c', news', rfl, F', N', off', hlp', hI'⟩
      exact ⟨h', tk', fr c', news', rfl, F', N', off', hlp', list_rest fr Inv turn done r c' news' hI' hlp' off'⟩
    cases f with
    | ret v => exact hp
    | brk => exact hp
    | next => exact fin hp
    | cont => exact fin hp
theorem loopL (fr : σ → Str → Option Value) (Inv : List Value → σ → List (Addr × Obj) → Prop) {ax : Addr} {lo : Obj} {vs : List Value} {n : Nat} {m₀ : Str → Option Value} {news : List (Addr × Obj)} (c₀ : σ)
    (hh : A.handled = none) (F : Fr h₀ env.locals s.heap m₀) (N : News h₀ env.locals s.heap news) (hm : (ax, lo) ∈ news) (hc : lo.cls = .type "list") (hd : lo.data = .seq vs.toArray n) (hf : m₀ = fr c₀) (h0 : Inv vs c₀ news)
    (turn : ∀ I v r c news₁ it h tk, Inv (v :: r) c news₁ → (ax, lo) ∈ news₁ → it.cls = .type "list_iterator" → (∀ p ∈ news₁, p.1 ≠ I) → Fr h₀ env.locals h (fun y => if y = x then some v else fr c y) → News h₀ env.locals h ((I, it) :: news₁) →
      wpAny (model prog w) A (execs body env) (LoopPost h₀ env.locals (ax, lo) fr Inv { s with heap := h, toks := tk } I it r Q) E { s with heap := h, toks := tk })
    (done : ∀ c news₁ h tk, Inv [] c news₁ → Fr h₀ env.locals h (fr c) → News h₀ env.locals h news₁ → Q .next { s with heap := h, toks := tk }) :
    wpAny (model prog w) A (pyIter (.ref ax)) (fun it s₂ => LoopAtV prog w A h₀ env x body Q E it s₂) E s := by
  subst hf
  exact iter_listUnr hh F N hm hc hd fun I l1 => list_rest fr Inv (turn I) done vs c₀ news h0 hm fun p hp => Nat.ne_of_lt (l1 p hp)
theorem loopP (Inv : List Value → List (Addr × Obj) → Prop) {ax : Addr} {lo : Obj} {vs : List Value} {n : Nat} {m₀ : Str → Option Value} {news : List (Addr × Obj)}
    (hh : A.handled = none) (F : Fr h₀ env.locals s.heap m₀) (N : News h₀ env.locals s.heap news) (hm : (ax, lo) ∈ news) (hc : lo.cls = .type "list") (hd : lo.data = .seq vs.toArray n) (h0 : Inv vs news)
    (turn : ∀ I v r news₁ it h tk, Inv (v :: r) news₁ → (ax, lo) ∈ news₁ → it.cls = .type "list_iterator" → (∀ p ∈ news₁, p.1 ≠ I) → Fr h₀ env.locals h (fun y => if y = x then some v else m₀ y) → News h₀ env.locals h ((I, it) :: news₁) →
      wpAny (model prog w) A (execs body env) (LoopPost h₀ env.locals (ax, lo) (fun (u : Option Value) y => if y = x then u else m₀ y) (fun vs _ nw => Inv vs nw) { s with heap := h, toks := tk } I it r Q) E { s with heap := h, toks := tk })
    (done : ∀ (u : Option Value) news₁ h tk, Inv [] news₁ → Fr h₀ env.locals h (fun y => if y = x then u else m₀ y) → News h₀ env.locals h news₁ → Q .next { s with heap := h, toks := tk }) :
    wpAny (model prog w) A (pyIter (.ref ax)) (fun it s₂ => LoopAtV prog w A h₀ env x body Q E it s₂) E s :=
  loopL (fun (u : Option Value) y => if y = x then u else m₀ y) (fun vs _ nw => Inv vs nw) (m₀ x) hh F N hm hc hd (by funext y; by_cases h : y = x <;> simp [h]) h0
    (fun I v r c news₁ it h tk a b d e F' N' => turn I v r news₁ it h tk a b d e (by
      have q : (fun y => if y = x then some v else if y = x then c else m₀ y) = fun y => if y = x then some v else m₀ y := by funext y; by_cases h : y = x <;> simp [h]
      rw [q] at F'; exact F') N')
    done
theorem loopP_end {Inv : List Value → List (Addr × Obj) → Prop} {I L : Addr} {lp : Addr × Obj} {it : Obj} {r : List Value} {v : Value} {m₀ : Str → Option Value} {s₁ : Shared} {h' : Heap} {tk : Nat} {news' : List (Addr × Obj)} {all : List (Addr × Obj)}
    (F : Fr h₀ L h' (fun y => if y = x then some v else m₀ y)) (N : News h₀ L h' all) (hs : ∀ p ∈ (I, it) :: news', p ∈ all) (hoff : ∀ p ∈ news', p.1 ≠ I) (hlp : lp ∈ news') (hI : Inv r news') :
    LoopEnd h₀ L lp (fun (u : Option Value) y => if y = x then u else m₀ y) (fun vs _ nw => Inv vs nw) s₁ I it r { s₁ with heap := h', toks := tk } :=
  ⟨h', tk, some v, news', rfl, F, news_drop N hs, hoff, hlp, hI⟩
end
section
variable {prog : Program} {w : World} {A : Around} {E : Value → Shared → Prop} {s : Shared} {h₀ : Heap} {L d : Addr} {news : List (Addr × Obj)} {o : Obj} {kvs : List (Str × Value)} {k : Str} {key v : Value}
theorem in_some {Q : Value → Shared → Prop} (N : News h₀ L s.heap news) (hp : (d, o) ∈ news) (hd : o.IsDictOf (PySem.strKind prog w) kvs) (lo : (d == sysModules) = false) (hkey : (PySem.strKind prog w).is k key = true) (hv : valueAt kvs k = some v) (h : Q (.bool true) { s with toks := s.toks + 1 }) :
    wpAny (model prog w) A (compareOp .In key (.ref d)) Q E s := kda_in N hp hd lo hkey true (by rw [hv]; rfl) h
theorem in_none {Q : Value → Shared → Prop} (N : News h₀ L s.heap news) (hp : (d, o) ∈ news) (hd : o.IsDictOf (PySem.strKind prog w) kvs) (lo : (d == sysModules) = false) (hkey : (PySem.strKind prog w).is k key = true) (hv : valueAt kvs k = none) (h : Q (.bool false) { s with toks := s.toks + 1 }) :
    wpAny (model prog w) A (compareOp .In key (.ref d)) Q E s := kda_in N hp hd lo hkey false (by rw [hv]; rfl) h
end
theorem StrsAre.app {vs ws : List Value} {a b : List Str} (h : StrsAre vs a) (k : StrsAre ws b) : StrsAre (vs ++ ws) (a ++ b) := by
  induction h with
  | nil => exact k
  | cons x t _ ih => exact .cons x t ih

local macro_rules | `(tactic| walk_at "call type:list") => `(tactic| (ktd_call (Value.type "list") [Value.ref _]; k_dflt (first
  | (refine' led_copy ?kF ?kN ?km ?ks ?kz ?_; (case kF => k_asm); (case kN => k_asm); (case km => assumption); (case ks => k_subL); (case kz => omega))
  | (refine' top_copy ?kF ?kX ?kN ?ke ?kz ?_; (case kF => k_asm); (case kX => k_asm); (case kN => k_asm); (case ke => k_is); (case kz => exact Nat.le_of_ble_eq_true rfl))); intro D' c' h' F' N' l1; (try k_lt l1); (try k_sweep)))
local macro_rules | `(tactic| walk_at "binaryOp Add ref ref") => `(tactic| (k_here; (with_reducible show wpAny _ _ (binaryOp _ (Value.ref _) (Value.ref _)) _ _ _); k_dflt (refine' led_add ?kF ?kN ?k1 ?k2 ?kz ?kz2 ?_; (case kF => k_asm); (case kN => k_asm); (case k1 => k_mem); (case k2 => k_mem); (case kz => first | omega | exact Nat.le_of_ble_eq_true rfl | (simp only [List.length_append, List.length_cons, List.length_nil]; omega)); (case kz2 => first | omega | exact Nat.le_of_ble_eq_true rfl)); intro D' h' F' N' l1; (try k_lt l1); (try k_sweep)))
local macro_rules | `(tactic| walk_at "exec For") => `(tactic| (k_here; (with_reducible show wpAny _ _ (exec (Stmt.For (Expr.Name _ _) _ _ _ _) _) _ _ _); (rename Fr _ _ _ _ => lF'); (with_unfolding_all refine' For_invVF lF' ?k1 ?k2 ?_; (case k1 => exact rfl); (case k2 => exact rfl); k_whole)))
local macro_rules | `(tactic| walk_at "compareOp In str ref") => `(tactic| (k_here; k_dflt (first
  | (refine' in_some ?kN ?km ?kd ?kl (strKind_is _ _ _ _) ?kv ?_; (case kN => k_asm); (case km => k_mem); (case kd => assumption); (case kl => assumption); (case kv => assumption))
  | (refine' in_none ?kN ?km ?kd ?kl (strKind_is _ _ _ _) ?kv ?_; (case kN => k_asm); (case km => k_mem); (case kd => assumption); (case kl => assumption); (case kv => assumption)))))
local macro_rules | `(tactic| walk_at "LoopPost") => `(tactic| (dsimp only [LoopPost]))
local macro_rules | `(tactic| k_handed) => `(tactic| assumption)

theorem choose_c {prog : Program} {w : World} {p : Program} {loose : List Str} {mean : ExcName → Option Value} {mg mb : Str → Option Value} {R : List (Addr × Obj)} {v : Value} {kvs : List (Str × Value)} {lt : Addr} {tvs : List Value} {ts : List Str} {nl : Nat}
   (H : LyIn prog w R v kvs) (hl : (lt, listOf (List.toArray tvs) nl) ∈ R) (hS : StrsAre tvs ts) (hz : tvs.length ≤ 100) (hr : ∀ k v, valueAt kvs k = some v → handedIn v = true) :
   Con prog w (hd.heap_1 w.params) p loose mean mg mb 1 50 [v, .ref lt] R fun r news' => news' = R ∧ r = firstOf kvs (ts ++ fb) := by
  intro dp un gd cn cs a ccd cl outer A₀ base h₀ L m s Q E B F X N T hk hdp hun hret
  cases H with
  | mk m1 m2 m3 hol lo =>
    refine wpAny_call ?_
    k_dflt ktn_open
    k_steps
    (rename Fr _ _ _ _ => F1); (rename News _ _ _ _ => N1)
    refine loopP (fun vs news => (∀ p ∈ R, p ∈ news) ∧ ∃ ss, StrsAre vs ss ∧ firstOf kvs ss = firstOf kvs (ts ++ fb)) rfl F1 N1 (by k_mem) rfl rfl ?_ ?_ ?_
    · exact ⟨fun p hp => by simp only [List.mem_cons, hp, or_true], ts ++ fb, StrsAre.app hS (.cons _ _ (.cons _ _ (.cons _ _ .nil))), rfl⟩
    · intro I v r news₁ it h tk hI hlp hit hoff F2 N2
      obtain ⟨hsub, ss, hss, hf⟩ := hI
      replace m1 := hsub _ m1
      replace m2 := hsub _ m2
      replace m3 := hsub _ m3
      clear F1 N1
      cases hss with
      | cons t tk' hss' =>
        cases hv : valueAt kvs t with
        | none =>
          k_steps
          exact loopP_end (by k_asm) (by k_asm) (fun _ hp => hp) hoff hlp ⟨hsub, _, hss', by rw [← hf]; simp only [firstOf, hv]⟩
        | some sv =>
          have hsv := hr t sv hv
          k_steps
          exact hret _ _ _ _ (by k_asm) (news_drop (by assumption) (fun p hp => List.mem_cons_of_mem _ (hsub p hp))) ⟨rfl, by rw [← hf]; simp only [firstOf, hv]⟩
    · intro u news₁ h tk hI F2 N2
      obtain ⟨hsub, ss, hss, hf⟩ := hI
      cases hss
      k_steps
      exact hret _ _ _ _ (by k_asm) (by exact news_drop (by assumption) hsub) ⟨rfl, hf⟩

/-- what _law_order gives back -/
def orderOf (kvs : List (Str × Value)) : List Str → List Str → List Str
  | acc, [] => acc
  | acc, t :: r => if (valueAt kvs t).isSome && !(acc.any (· == t)) then orderOf kvs (acc ++ [t]) r else orderOf kvs acc r
section
variable {prog : Program} {w : World} {A : Around} {E : Value → Shared → Prop} {s : Shared} {h₀ : Heap} {L f : Addr} {m : Str → Option Value} {news news' : List (Addr × Obj)} {fvs : List Value} {acc : List Str} {n : Nat} {k : Str} {t : Tok} {x : Value}
theorem notin_led {Q : Value → Shared → Prop} (N : News h₀ L s.heap news) (hm : (f, listOf (List.toArray fvs) n) ∈ news) (hi : StrsAre fvs acc) (b : Bool) (hb : acc.any (· == k) = b) (h : Q (.bool (!b)) s) :
    wpAny (model prog w) A (compareOp .NotIn (.str k t) (.ref f)) Q E s := notin_list_strs (led_list (R := news) N hm fun _ hp => hp) hi (by rw [hb]; exact h)
theorem append_led {Q : Value → Shared → Prop} (F : Fr h₀ L s.heap m) (N : News h₀ L s.heap news) (U : Upd f (listOf (List.toArray fvs) n) (listOf (List.toArray (fvs ++ [x])) (n + 1)) news news') (hz : fvs.length ≤ 1000)
    (h : ∀ h', Fr h₀ L h' m → News h₀ L h' news' → Q .none { s with heap := h' }) : wpAny (model prog w) A (call (.builtin "list.append") [.ref f, x]) Q E s :=
  append_K F N (by rw [List.push_toArray]; exact U) h (by rw [List.size_toArray, sizeLine_eq]; omega)
end

local macro_rules | `(tactic| walk_at "compareOp NotIn str ref") => `(tactic| (k_here; k_dflt (first
  | (refine' notin_led ?kN ?km ?ki true ?kb ?_; (case kN => k_asm); (case km => k_mem); (case ki => assumption); (case kb => assumption))
  | (refine' notin_led ?kN ?km ?ki false ?kb ?_; (case kN => k_asm); (case km => k_mem); (case ki => assumption); (case kb => assumption))); (try dsimp only [Bool.not_true, Bool.not_false])))
local macro_rules | `(tactic| walk_at "call builtin:list.append") => `(tactic| (ktd_call (Value.builtin _) [Value.ref _, _]; k_dflt (refine' append_led ?kF ?kN ?kU ?kz ?_; (case kF => k_asm); (case kN => k_asm); (case kU => k_upd); (case kz => omega)); intro h' F' N'; (try k_sweep)))

theorem order_c {prog : Program} {w : World} {p : Program} {loose : List Str} {mean : ExcName → Option Value} {mg mb : Str → Option Value} {R : List (Addr × Obj)} {v : Value} {kvs : List (Str × Value)} {lt : Addr} {tvs : List Value} {ts : List Str} {nl : Nat}
   (H : LyIn prog w R v kvs) (hl : (lt, listOf (List.toArray tvs) nl) ∈ R) (hS : StrsAre tvs ts) (hz : tvs.length ≤ 100) :
   Con prog w (hd.heap_1 w.params) p loose mean mg mb 1 178 [v, .ref lt] R fun r news' => ∃ f fvs n, r = .ref f ∧ news' = (f, listOf (List.toArray fvs) n) :: R ∧ (∀ q ∈ R, q.1 ≠ f) ∧ StrsAre fvs (orderOf kvs [] (ts ++ fb)) ∧ fvs.length ≤ 110 := by
  intro dp un gd cn cs a ccd cl outer A₀ base h₀ L m s Q E B F X N T hk hdp hun hret
  cases H with
  | mk m1 m2 m3 hol lo =>
    refine wpAny_call ?_
    k_dflt ktn_open
    k_steps
    (rename Fr _ _ _ _ => F1); (rename News _ _ _ _ => N1)
    rename_i f _ lf _ ll _ llt D _ lD
    have hDf : ∀ p ∈ R, p.1 ≠ f := lt_ne lf
    refine loopP (news := (f, listOf (List.toArray []) 0) :: (D, listOf (List.toArray (tvs ++ [.str (Str.ofString "DFLT") tk, .str (Str.ofString "dflt") (tk + 1), .str (Str.ofString "latn") (tk + 1 + 1)])) 0) :: R)
      (fun vs news => ∃ fvs n R' ss acc, news = (f, listOf (List.toArray fvs) n) :: R' ∧ (∀ p ∈ R, p ∈ R') ∧ (∀ p ∈ R', p.1 ≠ f) ∧ (D, listOf (List.toArray (tvs ++ [.str (Str.ofString "DFLT") tk, .str (Str.ofString "dflt") (tk + 1), .str (Str.ofString "latn") (tk + 1 + 1)])) 0) ∈ R' ∧
        StrsAre vs ss ∧ StrsAre fvs acc ∧ fvs.length + vs.length ≤ 103 ∧ orderOf kvs acc ss = orderOf kvs [] (ts ++ fb)) rfl F1 (news_drop N1 ?_) (List.mem_cons_of_mem _ List.mem_cons_self) rfl rfl ?_ ?_ ?_
    · intro p hp; simp only [List.mem_cons] at hp ⊢; rcases hp with rfl | rfl | hp
      · exact .inr (.inr (.inl rfl))
      · exact .inl rfl
      · exact .inr (.inr (.inr hp))
    · refine ⟨[], 0, _, ts ++ fb, [], rfl, fun p hp => .tail _ hp, ?_, List.mem_cons_self, StrsAre.app hS (.cons _ _ (.cons _ _ (.cons _ _ .nil))), .nil, by simp only [List.length_append, List.length_cons, List.length_nil]; omega, rfl⟩
      intro p hp
      rcases List.mem_cons.mp hp with rfl | hp
      · exact Nat.ne_of_gt lD.2.1
      · exact hDf p hp
    · intro I v r news₁ it h tk hI hlp hit hoff F2 N2
      obtain ⟨fvs, n, R', ss, acc, rfl, hsub, hof, hDin, hss, hfv, hlen, heq⟩ := hI
      replace m1 := hsub _ m1
      replace m2 := hsub _ m2
      replace m3 := hsub _ m3
      have hIf : @Ne Nat I f := Ne.symm (hoff _ List.mem_cons_self)
      have hoffR : ∀ p ∈ R', p.1 ≠ I := fun p hp => hoff p (.tail _ hp)
      clear F1 N1
      cases hss with
      | cons t tk' hss' =>
        rw [List.length_cons] at hlen
        cases hv : valueAt kvs t with
        | none =>
          k_steps
          exact loopP_end (by k_asm) (by k_asm) (fun _ hp => hp) hoff hlp ⟨fvs, n, R', _, acc, rfl, hsub, hof, hDin, hss', hfv, by omega, by rw [← heq]; simp only [orderOf, hv, Option.isSome_none, Bool.false_and, Bool.false_eq_true, if_false]⟩
        | some sv =>
          cases ha : acc.any (· == t) with
          | true =>
            k_steps
            exact loopP_end (by k_asm) (by k_asm) (fun _ hp => hp) hoff hlp ⟨fvs, n, R', _, acc, rfl, hsub, hof, hDin, hss', hfv, by omega, by rw [← heq]; simp only [orderOf, hv, ha, Option.isSome_some, Bool.true_and, Bool.not_true, Bool.false_eq_true, if_false]⟩
          | false =>
            k_steps
            refine loopP_end (news' := (f, listOf (List.toArray (fvs ++ [.str t tk'])) (n + 1)) :: R') (by k_asm) (by k_asm) (fun _ hp => hp) ?_ (.tail _ hDin) ⟨fvs ++ [.str t tk'], n + 1, R', _, acc ++ [t], rfl, hsub, hof, hDin, hss', StrsAre.app hfv (.cons _ _ .nil), by rw [List.length_append, List.length_singleton]; omega, by rw [← heq]; simp only [orderOf, hv, ha, Option.isSome_some, Bool.true_and, Bool.not_false, if_true]⟩
            intro p hp
            rcases List.mem_cons.mp hp with rfl | hp
            · exact Ne.symm hIf
            · exact hoffR p hp
    · intro u news₁ h tk hI F2 N2
      obtain ⟨fvs, n, R', ss, acc, rfl, hsub, hof, hDin, hss, hfv, hlen, heq⟩ := hI
      cases hss
      k_steps
      rename_i kN
      refine hret _ ((f, listOf (List.toArray fvs) n) :: R) _ _ (by k_asm) (news_drop (by assumption) ?_) ⟨f, fvs, n, rfl, rfl, hDf, heq ▸ hfv, by omega⟩
      intro p hp
      rcases List.mem_cons.mp hp with rfl | hp
      · exact .head _
      · exact .tail _ (hsub p hp)

/-! the plain law of chosen_holds -/
theorem orderOf_pre (kvs : List (Str × Value)) : ∀ (l acc : List Str), ∃ e, orderOf kvs acc l = acc ++ e
  | [], acc => ⟨[], by simp [orderOf]⟩
  | t :: r, acc => by
    unfold orderOf
    split
    · obtain ⟨e, h⟩ := orderOf_pre kvs r (acc ++ [t]); exact ⟨t :: e, by rw [h, List.append_assoc]; rfl⟩
    · exact orderOf_pre kvs r acc
theorem any_eq_mem {acc : List Str} {t : Str} : acc.any (· == t) = true ↔ t ∈ acc := by
  rw [List.any_eq_true]
  exact ⟨fun ⟨x, hx, e⟩ => eq_of_beq e ▸ hx, fun h => ⟨t, h, by simp⟩⟩
theorem orderOf_nodup (kvs : List (Str × Value)) : ∀ (l acc : List Str), acc.Nodup → (orderOf kvs acc l).Nodup
  | [], acc, h => h
  | t :: r, acc, h => by
    unfold orderOf
    split
    · rename_i q
      refine orderOf_nodup kvs r _ (List.nodup_append.mpr ⟨h, by simp, fun a ha b hb => ?_⟩)
      rw [List.mem_singleton.mp hb]
      rintro rfl
      rw [any_eq_mem.mpr ha] at q
      simp at q
    · exact orderOf_nodup kvs r acc h
theorem orderOf_known (kvs : List (Str × Value)) : ∀ (l acc : List Str), (∀ x ∈ acc, (valueAt kvs x).isSome = true) → ∀ x ∈ orderOf kvs acc l, (valueAt kvs x).isSome = true
  | [], acc, h => h
  | t :: r, acc, h => by
    unfold orderOf
    split
    · rename_i q
      refine orderOf_known kvs r _ fun x hx => ?_
      rcases List.mem_append.mp hx with hx | hx
      · exact h x hx
      · rw [List.mem_singleton.mp hx]; exact (Bool.and_eq_true_iff.mp q).1
    · exact orderOf_known kvs r acc h
theorem orderOf_all (kvs : List (Str × Value)) : ∀ (l acc : List Str), ∀ x ∈ l, (valueAt kvs x).isSome = true → x ∈ orderOf kvs acc l
  | [], _, _, h, _ => nomatch h
  | t :: r, acc, x, h, hx => by
    unfold orderOf
    rcases List.mem_cons.mp h with rfl | h
    · split
      · obtain ⟨e, he⟩ := orderOf_pre kvs r (acc ++ [x]); rw [he]; simp
      · rename_i q
        rw [hx, Bool.true_and, Bool.not_eq_true, Bool.not_eq_false', any_eq_mem] at q
        obtain ⟨e, he⟩ := orderOf_pre kvs r acc; rw [he]; exact List.mem_append.mpr (.inl q)
    · split
      · exact orderOf_all kvs r _ x h hx
      · exact orderOf_all kvs r _ x h hx
/-- what is left when the tags of done are popped -/
def LeftOf (kvs kvs' : List (Str × Value)) (done : List Str) : Prop := ∀ k, valueAt kvs' k = if k ∈ done then none else valueAt kvs k
theorem firstOf_left {kvs kvs' : List (Str × Value)} {done rest : List Str} {t : Str} {v : Value} (hL : LeftOf kvs kvs' done) (hv : valueAt kvs t = some v) :
    ∀ (l acc d : List Str), orderOf kvs acc l = done ++ t :: rest → done = acc ++ d → firstOf kvs' l = v
  | [], acc, d, h, e => by
    exfalso
    have h1 : acc = done ++ t :: rest := h
    have := congrArg List.length h1
    rw [e] at this
    simp only [List.length_append, List.length_cons] at this
    omega
  | x :: l, acc, d, h, e => by
    unfold orderOf at h
    unfold firstOf
    rw [hL x]
    split at h
    · rename_i q
      have q1 := (Bool.and_eq_true_iff.mp q).1
      have q2 : x ∉ acc := fun hx => by have := (Bool.and_eq_true_iff.mp q).2; rw [any_eq_mem.mpr hx] at this; cases this
      obtain ⟨e', he⟩ := orderOf_pre kvs l (acc ++ [x])
      cases d with
      | nil =>
        rw [List.append_nil] at e
        subst e
        rw [he, List.append_assoc] at h
        have h2 := List.append_cancel_left h
        simp only [List.singleton_append, List.cons.injEq] at h2
        obtain ⟨rfl, _⟩ := h2
        rw [if_neg q2, hv]
      | cons y d =>
        have h2 := he ▸ h
        rw [e, List.append_assoc, List.append_assoc] at h2
        have h3 := List.append_cancel_left h2
        simp only [List.singleton_append, List.cons_append, List.cons.injEq] at h3
        obtain ⟨rfl, _⟩ := h3
        rw [if_pos (by rw [e]; simp)]
        exact firstOf_left hL hv l (acc ++ [x]) d h (by rw [e]; simp)
    · rename_i q
      have hx : (if x ∈ done then none else valueAt kvs x) = none := by
        by_cases hxa : x ∈ done
        · rw [if_pos hxa]
        · rw [if_neg hxa]
          cases hxv : valueAt kvs x with
          | none => rfl
          | some u =>
            exfalso
            rw [hxv, Option.isSome_some, Bool.true_and, Bool.not_eq_true, Bool.not_eq_false', any_eq_mem] at q
            exact hxa (by rw [e]; exact List.mem_append.mpr (.inl q))
      rw [hx]
      exact firstOf_left hL hv l acc d h e
theorem firstOf_end {kvs kvs' : List (Str × Value)} {done : List Str} (hL : LeftOf kvs kvs' done) : ∀ (l : List Str), (∀ x ∈ l, (valueAt kvs x).isSome = true → x ∈ done) → firstOf kvs' l = .none
  | [], _ => rfl
  | x :: l, h => by
    unfold firstOf
    have hx : valueAt kvs' x = none := by
      rw [hL x]
      by_cases hxd : x ∈ done
      · rw [if_pos hxd]
      · rw [if_neg hxd]
        cases hxv : valueAt kvs x with
        | none => rfl
        | some u => exact absurd (h x (.head _) (by rw [hxv]; rfl)) hxd
    rw [hx]
    exact firstOf_end hL l fun y hy => h y (.tail _ hy)
/-- the row with tags that are not known in between -/
def mixOf : List Str → List Str
  | [] => []
  | t :: r => t :: Str.ofString "zzzz" :: mixOf r
theorem firstOf_mix {kvs' : List (Str × Value)} (h2 : valueAt kvs' (Str.ofString "zzzz") = none) : ∀ (ts b : List Str), firstOf kvs' (mixOf ts ++ b) = firstOf kvs' (ts ++ b)
  | [], _ => rfl
  | t :: r, b => by
    have ih := firstOf_mix h2 r b
    simp only [mixOf, List.cons_append, firstOf, h2, ih]
theorem firstOf_mixed {kvs' : List (Str × Value)} (h1 : valueAt kvs' (Str.ofString "none") = none) (h2 : valueAt kvs' (Str.ofString "zzzz") = none) (ts b : List Str) : firstOf kvs' ((Str.ofString "none" :: mixOf ts) ++ b) = firstOf kvs' (ts ++ b) := by
  simp only [List.cons_append, firstOf, h1, firstOf_mix h2]
theorem leftOf_start (kvs : List (Str × Value)) : LeftOf kvs kvs [] := fun k => by simp
theorem leftOf_pop {kvs kvs' : List (Str × Value)} {done : List Str} {t : Str} (hL : LeftOf kvs kvs' done) : LeftOf kvs (without kvs' t) (done ++ [t]) := fun k => by
  have e : valueAt (without kvs' t) k = if k = t then none else valueAt kvs' k := by
    unfold valueAt without
    by_cases hk : k = t
    · subst hk
      rw [if_pos rfl]
      simp only [Option.map_eq_none_iff, List.find?_eq_none, List.mem_filter]
      rintro p ⟨_, hp⟩ hq
      simp only [decide_eq_true_eq] at hp hq
      exact hp hq
    · rw [if_neg hk, List.find?_filter]
      congr 1
      apply congrArg (fun f => List.find? f kvs')
      funext p
      by_cases hp : p.1 = k
      · simp [hp, hk]
      · simp [hp]
  rw [e, hL k]
  by_cases hk : k = t
  · simp [hk]
  · by_cases hd : k ∈ done <;> simp [hk, hd]
theorem mixOf_length : ∀ ts : List Str, (mixOf ts).length = 2 * ts.length
  | [] => rfl
  | _ :: r => by simp only [mixOf, List.length_cons, mixOf_length r]; omega

theorem ScIn.open {prog : Program} {w : World} {R : List (Addr × Obj)} {v : Value} {D : SD} (H : ScIn prog w R v D) :
    ∃ x dx lx h1 h2 h3 t1 t2 t3 tt n dv, v = .ref x ∧ (x, instObj 114 dx) ∈ R ∧
      (dx, dictOf [⟨h1, .str (Str.ofString "tag") t1, .str D.tag tt⟩, ⟨h2, .str (Str.ofString "default") t2, dv⟩, ⟨h3, .str (Str.ofString "languages") t3, .ref lx⟩] n) ∈ R := by
  cases H with
  | mk a b _ _ _ _ _ => exact ⟨_, _, _, _, _, _, _, _, _, _, _, _, rfl, a, b⟩
/-- a layout of the law -/
structure LayIn (prog : Program) (w : World) (R : List (Addr × Obj)) (v : Value) (kvs : List (Str × Value)) : Prop where
  ly : LyIn prog w R v kvs
  sc : ∀ k u, valueAt kvs k = some u → ∃ D, ScIn prog w R u D ∧ PyData.strOk D.tag = true
  len : kvs.length ≤ 10
  no1 : valueAt kvs (Str.ofString "none") = none
  no2 : valueAt kvs (Str.ofString "zzzz") = none
  kok : ∀ k, (valueAt kvs k).isSome = true → PyData.strOk k = true
theorem LayIn.mono {prog : Program} {w : World} {R R' : List (Addr × Obj)} {v : Value} {kvs : List (Str × Value)} (h : LayIn prog w R v kvs) (hs : ∀ p ∈ R, p ∈ R') : LayIn prog w R' v kvs :=
  ⟨h.ly.mono hs, fun k u e => let ⟨D, a, b⟩ := h.sc k u e; ⟨D, a.mono hs, b⟩, h.len, h.no1, h.no2, h.kok⟩
theorem LayIn.handed {prog : Program} {w : World} {R : List (Addr × Obj)} {v : Value} {kvs : List (Str × Value)} (h : LayIn prog w R v kvs) : ∀ k u, valueAt kvs k = some u → handedIn u = true := fun k u e => by
  obtain ⟨D, a, _⟩ := h.sc k u e
  cases a; rfl
theorem kqd_ls {req f : Int} : kqdOk 6 (lsDat req f) = true := rfl
theorem kqd_sc {D : SD} (h : PyData.strOk D.tag = true) : kqdOk 8 (scDat D) = true := by
  obtain ⟨tag, sp, df, k⟩ := D
  have e1 : PyData.strOk (Str.ofString "ARA ") = true := by decide +kernel
  have e2 : PyData.strOk (Str.ofString "URD ") = true := by decide +kernel
  cases df <;> rcases k with _ | _ | k <;> simp_all [scDat, dfDat, lgDat, lsDat, kqdOk]
section
variable {prog : Program} {w : World} {p : Program} {loose : List Str} {mean : ExcName → Option Value} {mg mb : Str → Option Value}
    {dp un : Nat} {gd : Option (List Code)} {cn : Str} {cs : Scope} {a : Addr} {ccd : Value} {cl : List (Str × Addr)} {outer : List Env} {A₀ : Around} {base h₀ : Heap} {L : Addr} {m : Str → Option Value} {s : Shared} {Q E : Value → Shared → Prop} {news R : List (Addr × Obj)}
theorem con_told {v : Value} {D : SD} (B : Below A₀ base outer h₀) (F : Fr h₀ L s.heap m) (X : (hd.heap_1 w.params).In h₀) (N : News h₀ L s.heap news) (T : Top p loose mean mg mb h₀) (hk : cs.kind = .function)
    (H : ScIn prog w R v D) (hs : ∀ p ∈ R, p ∈ news) (hd : dp + 20 < 900) (hu : un + 200 < 9000)
    (ret : ∀ a tl h' tk', Fr h₀ L h' m → News h₀ L h' (tl ++ news) → Abv tl news → DatIn tl (.ref a) (scDat D) → Q (.ref a) { s with heap := h', toks := tk' }) :
    wpAny (model prog w) (ktrTop dp un gd cn cs L a ccd cl outer) (call (.ref 111) [v]) Q E s :=
  con_use B F X N T hk (told_c (H.mono hs)) hd hu fun r news' h' tk' F' N' hr => by
    obtain ⟨tl, rfl, ha, hd⟩ := hr
    cases hd with
    | tuple m1 m2 => exact ret _ tl h' tk' F' N' ha (.tuple m1 m2)
theorem con_choose {v r : Value} {kvs : List (Str × Value)} {lt : Addr} {tvs : List Value} {ts : List Str} {nl : Nat} (B : Below A₀ base outer h₀) (F : Fr h₀ L s.heap m) (X : (hd.heap_1 w.params).In h₀) (N : News h₀ L s.heap news) (T : Top p loose mean mg mb h₀) (hk : cs.kind = .function)
    (H : LyIn prog w news v kvs) (hl : (lt, listOf (List.toArray tvs) nl) ∈ news) (hS : StrsAre tvs ts) (hz : tvs.length ≤ 100) (hr : ∀ k v, valueAt kvs k = some v → handedIn v = true) (hf : firstOf kvs (ts ++ fb) = r) (hd : dp + 10 < 900) (hu : un + 100 < 9000)
    (ret : ∀ h' tk', Fr h₀ L h' m → News h₀ L h' news → Q r { s with heap := h', toks := tk' }) :
    wpAny (model prog w) (ktrTop dp un gd cn cs L a ccd cl outer) (call (.ref 50) [v, .ref lt]) Q E s :=
  con_use B F X N T hk (choose_c H hl hS hz hr) hd hu fun q news' h' tk' F' N' hq => by
    obtain ⟨rfl, rfl⟩ := hq
    exact hf ▸ ret h' tk' F' N'
theorem con_order {v : Value} {kvs : List (Str × Value)} {lt : Addr} {tvs : List Value} {ts : List Str} {nl : Nat} (B : Below A₀ base outer h₀) (F : Fr h₀ L s.heap m) (X : (hd.heap_1 w.params).In h₀) (N : News h₀ L s.heap news) (T : Top p loose mean mg mb h₀) (hk : cs.kind = .function)
    (H : LyIn prog w R v kvs) (hs : ∀ p ∈ R, p ∈ news) (hl : (lt, listOf (List.toArray tvs) nl) ∈ news) (hS : StrsAre tvs ts) (hz : tvs.length ≤ 100) (hd : dp + 10 < 900) (hu : un + 100 < 9000)
    (ret : ∀ f fvs n h' tk', Fr h₀ L h' m → News h₀ L h' ((f, listOf (List.toArray fvs) n) :: news) → (∀ q ∈ news, q.1 ≠ f) → StrsAre fvs (orderOf kvs [] (ts ++ fb)) → fvs.length ≤ 110 → Q (.ref f) { s with heap := h', toks := tk' }) :
    wpAny (model prog w) (ktrTop dp un gd cn cs L a ccd cl outer) (call (.ref 178) [v, .ref lt]) Q E s :=
  con_use B F X N T hk (order_c (H.mono hs) hl hS hz) hd hu fun q news' h' tk' F' N' hq => by
    obtain ⟨f, fvs, n, rfl, rfl, h1, h2, h3⟩ := hq
    exact ret f fvs n h' tk' F' N' h1 h2 h3
end
section
variable {prog : Program} {w : World} {A : Around} {E : Value → Shared → Prop} {s : Shared} {h₀ : Heap} {L d : Addr} {m : Str → Option Value} {news n1 n2 : List (Addr × Obj)} {o : Obj} {kvs : List (Str × Value)}
theorem dictCopy {Q : Value → Shared → Prop} (F : Fr h₀ L s.heap m) (N : News h₀ L s.heap news) (hbig : h₀.NoLimit) (hm : (d, o) ∈ news) (hd : o.IsDictOf (PySem.strKind prog w) kvs) (lo : (d == sysModules) = false) (hsz : kvs.length ≤ 1000)
    (k : ∀ d' h' o', Fr h₀ L h' m → News h₀ L h' ((d', o') :: news) → (∀ p ∈ news, p.1 < d') → (d' == sysModules) = false → o'.IsDictOf (PySem.strKind prog w) kvs → Q (.ref d') { s with heap := h' }) :
    wpAny (model prog w) A (call (.type "dict") [.ref d]) Q E s := by
  refine kt_call_dict lo (kda_dict N hm hd) (by rw [sizeLine_eq]; omega) fun h' hm' hs => ?_
  obtain ⟨o', ho', hd'⟩ := Heap.dictOf_iff.mp hm'
  have N1 := News.push F N { cls := .type "dict", data := .dict #[] }
  exact k _ h' o' ((F.push _).change hs (N1 _ (.head _)).2.1 (N1.fresh (.head _))) (N1.setHead N.apart hs ho') (fun p hp => Heap.lt_size (N p hp).1) (F.notModules (modules_low hbig)) hd'
theorem datNe {va vb : Value} {dd : Dat} {Q : Value → Shared → Prop} (N : News h₀ L s.heap news) (Da : DatIn n1 va dd) (sa : ∀ p ∈ n1, p ∈ news) (Db : DatIn n2 vb dd) (sb : ∀ p ∈ n2, p ∈ news) (hok : kqdOk 8 dd = true) (hu : A.units + 64 < cLine) (h : Q (.bool false) s) :
    wpAny (model prog w) A (compareOp .NotEq va vb) Q E s := by
  obtain ⟨as, ra⟩ := kqd_in N 8 (Da.mono sa) hok
  obtain ⟨bs, rb⟩ := kqd_in N 8 (Db.mono sb) hok
  have la := kqd_lay 8 dd hok
  have hsh : SeqAt.shaped (kqdP dd) = true := by unfold SeqAt.shaped; rw [la.1, Bool.true_and]; exact decide_eq_true (Nat.le_trans la.2 (by decide))
  exact ne_dataH ra rb hsh hsh hu (by rw [(kqd_eqv 8 dd dd 8 hok hok).mpr rfl]; exact h)
end

section
variable {prog : Program} {w : World} {A : Around} {E : Value → Shared → Prop} {s : Shared} {env : Env} {h₀ : Heap} {x : Str} {body : List Stmt} {Q : Flow → Shared → Prop}
/-- a loop whose turns store the names of a written list -/
theorem loopS (stored : List Str) (Inv : List Value → (Str → Option Value) → List (Addr × Obj) → Prop) {ax : Addr} {lo : Obj} {vs : List Value} {n : Nat} {m₀ : Str → Option Value} {news : List (Addr × Obj)}
    (hh : A.handled = none) (F : Fr h₀ env.locals s.heap m₀) (N : News h₀ env.locals s.heap news) (hm : (ax, lo) ∈ news) (hc : lo.cls = .type "list") (hd : lo.data = .seq vs.toArray n) (h0 : Inv vs m₀ news)
    (turn : ∀ I v r u news₁ it h tk, Inv (v :: r) u news₁ → (ax, lo) ∈ news₁ → it.cls = .type "list_iterator" → (∀ p ∈ news₁, p.1 ≠ I) → Fr h₀ env.locals h (fun y => if y = x then some v else if stored.contains y then u y else m₀ y) → News h₀ env.locals h ((I, it) :: news₁) →
      wpAny (model prog w) A (execs body env) (LoopPost h₀ env.locals (ax, lo) (fun (u : Str → Option Value) y => if stored.contains y then u y else m₀ y) Inv { s with heap := h, toks := tk } I it r Q) E { s with heap := h, toks := tk })
    (done : ∀ u news₁ h tk, Inv [] u news₁ → Fr h₀ env.locals h (fun y => if stored.contains y then u y else m₀ y) → News h₀ env.locals h news₁ → Q .next { s with heap := h, toks := tk }) :
    wpAny (model prog w) A (pyIter (.ref ax)) (fun it s₂ => LoopAtV prog w A h₀ env x body Q E it s₂) E s :=
  loopL (fun (u : Str → Option Value) y => if stored.contains y then u y else m₀ y) Inv m₀ hh F N hm hc hd (by funext y; by_cases h : stored.contains y = true <;> simp [h]) h0 turn done
theorem loopS_end {stored : List Str} {Inv : List Value → (Str → Option Value) → List (Addr × Obj) → Prop} {I L : Addr} {lp : Addr × Obj} {it : Obj} {r : List Value} {m₀ m' : Str → Option Value} {s₁ : Shared} {h' : Heap} {tk : Nat} {news' all : List (Addr × Obj)}
    (F : Fr h₀ L h' m') (N : News h₀ L h' all) (hs : ∀ p ∈ (I, it) :: news', p ∈ all) (hoff : ∀ p ∈ news', p.1 ≠ I) (hlp : lp ∈ news') (hm : ∀ y, stored.contains y = false → m' y = m₀ y) (hI : Inv r m' news') :
    LoopEnd h₀ L lp (fun (u : Str → Option Value) y => if stored.contains y then u y else m₀ y) Inv s₁ I it r { s₁ with heap := h', toks := tk } := by
  have e : m' = fun y => if stored.contains y then m' y else m₀ y := by
    funext y
    cases h : stored.contains y with
    | true => simp
    | false => simp only [Bool.false_eq_true, if_false]; exact hm y h
  exact ⟨h', tk, m', news', rfl, Eq.subst (motive := fun z => Fr _ L h' z) e F, news_drop N hs, hoff, hlp, hI⟩
end
theorem allObj_intro : ∀ {ws : List (Addr × String)} {k : List (Addr × Obj) → Prop}, (∀ its, Objs ws its → k its) → AllObj ws k
  | [], _, h => h [] trivial
  | _ :: _, _, h => fun _ hc => allObj_intro fun its hi => h _ ⟨⟨rfl, hc⟩, hi⟩
theorem objs_one {I : Addr} {c : String} {its : List (Addr × Obj)} (h : Objs [(I, c)] its) : ∃ it, its = [(I, it)] ∧ it.cls = .type c := by
  cases its with
  | nil => exact h.elim
  | cons q r =>
    cases r with
    | cons _ _ => exact h.2.elim
    | nil =>
      obtain ⟨i, it⟩ := q
      have e : i = I := h.1.1
      subst e
      exact ⟨it, rfl, h.1.2⟩
def ItmEnd (h₀ : Heap) (L : Addr) (keep : List (Addr × Obj)) (stored : List Str) (m₀ : Str → Option Value) (Inv : List Itm → (Str → Option Value) → List (Addr × Obj) → Prop) (s₁ : Shared) (its : List (Addr × Obj)) (r : List Itm) (s₂ : Shared) : Prop :=
  ∃ h' tk u' news', s₂ = { s₁ with heap := h', toks := tk } ∧ Fr h₀ L h' (fun y => if stored.contains y then u' y else m₀ y) ∧ News h₀ L h' (its ++ news') ∧ (∀ p ∈ news', ∀ q ∈ its, p.1 ≠ q.1) ∧ SubL keep news' ∧ Inv r u' news'
def ItmPost (h₀ : Heap) (L : Addr) (keep : List (Addr × Obj)) (stored : List Str) (m₀ : Str → Option Value) (Inv : List Itm → (Str → Option Value) → List (Addr × Obj) → Prop) (s₁ : Shared) (its : List (Addr × Obj)) (r : List Itm) (Q : Flow → Shared → Prop) (f : Flow) (s₂ : Shared) : Prop :=
  match f with
  | .ret v => Q (.ret v) s₂
  | .brk => Q .next s₂
  | _ => ItmEnd h₀ L keep stored m₀ Inv s₁ its r s₂
section
variable {prog : Program} {w : World} {A : Around} {E : Value → Shared → Prop} {s : Shared} {env : Env} {h₀ : Heap} {target : Expr} {body : List Stmt} {Q : Flow → Shared → Prop}
theorem items_rest (stored : List Str) (m₀ : Str → Option Value) (Inv : List Itm → (Str → Option Value) → List (Addr × Obj) → Prop) {ws : List (Addr × String)} {keep : List (Addr × Obj)}
    (turn : ∀ a r u news₁ v its h tk, Inv (a :: r) u news₁ → SubL keep news₁ → Objs ws its → (∀ p ∈ news₁, ∀ q ∈ its, p.1 ≠ q.1) → a.Is v h → Fr h₀ env.locals h (fun y => if stored.contains y then u y else m₀ y) → News h₀ env.locals h (its ++ news₁) →
      wpAny (model prog w) A (assign target env v) (fun _ s₂ => wpAny (model prog w) A (execs body env) (ItmPost h₀ env.locals keep stored m₀ Inv { s with heap := h, toks := tk } its r Q) E s₂) E { s with heap := h, toks := tk })
    (done : ∀ u news₁ h tk, Inv [] u news₁ → Fr h₀ env.locals h (fun y => if stored.contains y then u y else m₀ y) → News h₀ env.locals h news₁ → Q .next { s with heap := h, toks := tk }) :
    ∀ xs u news, Inv xs u news → SubL keep news → (∀ p ∈ news, ∀ q ∈ ws, p.1 ≠ q.1) → ItemsRest prog w A E h₀ env target body Q s ws keep xs (fun y => if stored.contains y then u y else m₀ y) news
  | [], u, news, hI, _, _ => ItemsRest.zero fun h tk F N => done u news h tk hI F N
  | a :: r, u, news, hI, hk, hoff => fun v h tk hv F => allObj_intro fun its hits N => by
    have hmap := hits.map
    have off' : ∀ p ∈ news, ∀ q ∈ its, p.1 ≠ q.1 := fun p hp q hq => by
      have h1 : q.1 ∈ ws.map (·.1) := by rw [← hmap]; exact List.mem_map.mpr ⟨q, hq, rfl⟩
      obtain ⟨z, hz, hze⟩ := List.mem_map.mp h1
      rw [← hze]; exact hoff p hp z hz
    refine wpAny_mono (turn a r u news v its h tk hI hk hits off' hv F N) (fun _ s₂ h₂ => wpAny_mono h₂ (fun f s₃ hp => ?_) fun _ _ e => e) fun _ _ e => e
    have fin : ItmEnd h₀ env.locals keep stored m₀ Inv { s with heap := h, toks := tk } its r s₃ →
        UnrEndW h₀ env.locals { s with heap := h, toks := tk } its (fun m' n' => SubL keep n' ∧ ItemsRest prog w A E h₀ env target body Q s ws keep r m' n') s₃ := by
      rintro ⟨h', tk', u', news', rfl, F', N', off', hk', hI'⟩
      refine ⟨h', tk', _, news', rfl, F', N', off', hk', items_rest stored m₀ Inv turn done r u' news' hI' hk' fun p hp q hq => ?_⟩
      have h1 : q.1 ∈ its.map (·.1) := by rw [hmap]; exact List.mem_map.mpr ⟨q, hq, rfl⟩
      obtain ⟨z, hz, hze⟩ := List.mem_map.mp h1
      rw [← hze]; exact off' p hp z hz
    cases f with
    | ret v => exact hp
    | brk => exact hp
    | next => exact fin hp
    | cont => exact fin hp
theorem stored_self (stored : List Str) (m₀ : Str → Option Value) : m₀ = fun y => if stored.contains y then m₀ y else m₀ y := by funext y; split <;> rfl
theorem itm_end {keep : List (Addr × Obj)} {stored : List Str} {m₀ m' : Str → Option Value} {Inv : List Itm → (Str → Option Value) → List (Addr × Obj) → Prop} {L : Addr} {s₁ : Shared} {its : List (Addr × Obj)} {r : List Itm} {h' : Heap} {tk : Nat} {news' all : List (Addr × Obj)}
    (F : Fr h₀ L h' m') (N : News h₀ L h' all) (hs : ∀ p ∈ its ++ news', p ∈ all) (hoff : ∀ p ∈ news', ∀ q ∈ its, p.1 ≠ q.1) (hk : SubL keep news') (hm : ∀ y, stored.contains y = false → m' y = m₀ y) (hI : Inv r m' news') :
    ItmEnd h₀ L keep stored m₀ Inv s₁ its r { s₁ with heap := h', toks := tk } := by
  have e : m' = fun y => if stored.contains y then m' y else m₀ y := by
    funext y
    cases h : stored.contains y with
    | true => simp
    | false => simp only [Bool.false_eq_true, if_false]; exact hm y h
  exact ⟨h', tk, m', news', rfl, Eq.subst (motive := fun z => Fr _ L h' z) e F, news_drop N hs, hoff, hk, hI⟩
/-- a for over a tuple of the ledger -/
theorem tupLoop (stored : List Str) (Inv : List Itm → (Str → Option Value) → List (Addr × Obj) → Prop) {ax : Addr} {lo : Obj} {vs : List Value} {n : Nat} {m₀ : Str → Option Value} {news : List (Addr × Obj)}
    (hh : A.handled = none) (F : Fr h₀ env.locals s.heap m₀) (N : News h₀ env.locals s.heap news) (hm : (ax, lo) ∈ news) (hc : lo.cls = .type "tuple") (hd : lo.data = .seq vs.toArray n) (h0 : Inv (vs.map .val) m₀ news)
    (turn : ∀ I a r u news₁ v it h tk, Inv (a :: r) u news₁ → (ax, lo) ∈ news₁ → it.cls = .type "tuple_iterator" → (∀ p ∈ news₁, p.1 ≠ I) → a.Is v h → Fr h₀ env.locals h (fun y => if stored.contains y then u y else m₀ y) → News h₀ env.locals h ((I, it) :: news₁) →
      wpAny (model prog w) A (assign target env v) (fun _ s₂ => wpAny (model prog w) A (execs body env) (ItmPost h₀ env.locals [(ax, lo)] stored m₀ Inv { s with heap := h, toks := tk } [(I, it)] r Q) E s₂) E { s with heap := h, toks := tk })
    (done : ∀ u news₁ h tk, Inv [] u news₁ → Fr h₀ env.locals h (fun y => if stored.contains y then u y else m₀ y) → News h₀ env.locals h news₁ → Q .next { s with heap := h, toks := tk }) :
    wpAny (model prog w) A (pyIter (.ref ax)) (fun it s₂ => TurnsAt prog w A h₀ env target body Q E it s₂) E s := by
  refine iter_tupTurns hh F N hm hc hd fun I l1 => ?_
  rw [stored_self stored m₀]
  refine items_rest stored m₀ Inv (fun a r u news₁ v its h tk hI hk hits hoff hv F' N' => ?_) done _ m₀ news h0 ⟨hm, trivial⟩ fun p hp q hq => by rw [List.mem_singleton.mp hq]; exact Nat.ne_of_lt (l1 p hp)
  obtain ⟨it, rfl, hit⟩ := objs_one hits
  exact turn I a r u news₁ v it h tk hI (hk.mem _ (.head _)) hit (fun p hp => hoff p hp _ (.head _)) hv F' N'
end
theorem fr_two {x z : Str} {u m₀ : Str → Option Value} {a : Option Value} (hu : u z = a) : (fun y => if [x, z].contains y then u y else m₀ y) = fun y => if y = x then u x else if y = z then a else m₀ y := by
  funext y
  by_cases h1 : y = x
  · subst h1; simp
  · by_cases h2 : y = z
    · subst h2; simp [h1, hu]
    · simp [h1, h2]
theorem fr_two' {x z : Str} {u m₀ : Str → Option Value} {v a : Option Value} (hu : u z = a) : (fun y => if y = x then v else if [x, z].contains y then u y else m₀ y) = fun y => if y = x then v else if y = z then a else m₀ y := by
  funext y
  by_cases h1 : y = x
  · subst h1; simp
  · by_cases h2 : y = z
    · subst h2; simp [h1, hu]
    · simp [h1, h2]
theorem contains_ne {l : List Str} {y z : Str} (h : l.contains y = false) (hz : l.contains z = true) : y ≠ z := by
  rintro rfl; rw [hz] at h; cases h
theorem loopS_end_mix {stored : List Str} {h₀ : Heap} {Inv : List Value → (Str → Option Value) → List (Addr × Obj) → Prop} {I L : Addr} {lp : Addr × Obj} {it : Obj} {r : List Value} {m₀ m' : Str → Option Value} {s₁ : Shared} {h' : Heap} {tk : Nat} {q1 q2 q3 : Addr × Obj} {W : List (Addr × Obj)}
    (F : Fr h₀ L h' m') (N : News h₀ L h' (q1 :: q2 :: (I, it) :: q3 :: W)) (h1 : q1.1 ≠ I) (h3 : q3.1 ≠ I) (hW : ∀ p ∈ W, p.1 ≠ I) (hlp : lp ∈ q3 :: q1 :: W) (hm : ∀ y, stored.contains y = false → m' y = m₀ y) (hI : Inv r m' (q3 :: q1 :: W)) :
    LoopEnd h₀ L lp (fun (u : Str → Option Value) y => if stored.contains y then u y else m₀ y) Inv s₁ I it r { s₁ with heap := h', toks := tk } :=
  loopS_end (news' := q3 :: q1 :: W) F N (fun p hp => by
    simp only [List.mem_cons] at hp ⊢
    rcases hp with hp | hp | hp | hp
    · exact .inr (.inr (.inl hp))
    · exact .inr (.inr (.inr (.inl hp)))
    · exact .inl hp
    · exact .inr (.inr (.inr (.inr hp)))) (fun p hp => by
    simp only [List.mem_cons] at hp
    rcases hp with rfl | rfl | hp
    · exact h3
    · exact h1
    · exact hW p hp) hlp hm hI
theorem lp_in {lp q1 q3 : Addr × Obj} {W : List (Addr × Obj)} (h : lp ∈ q3 :: W) : lp ∈ q3 :: q1 :: W := by
  rcases List.mem_cons.mp h with rfl | h
  · exact .head _
  · exact .tail _ (.tail _ h)

local macro_rules | `(tactic| k_mem) => `(tactic| first | ((repeat refine List.mem_cons_of_mem _ ?_); ktr_member) | ((repeat refine List.mem_cons_of_mem _ ?_); (refine List.mem_append.mpr (Or.inr ?_)); (repeat refine List.mem_cons_of_mem _ ?_); ktr_member) | ((refine List.mem_append.mpr (Or.inr ?_)); k_mem))
local macro_rules | `(tactic| k_subL) => `(tactic| (intro p hp; repeat (first | exact hp | exact List.mem_append_left _ hp | refine List.mem_cons_of_mem _ ?_ | refine List.mem_append.mpr (Or.inr ?_))))
local macro_rules | `(tactic| ktr_rel) => `(tactic| first | with_reducible assumption | exact LyIn.mk (by k_mem) (by k_mem) (by k_mem) (by with_reducible assumption) (by with_reducible assumption) | assumption)
local macro_rules | `(tactic| walk_at "call ref") => `(tactic| ((try dsimp only [List.cons_append, List.nil_append]); ktd_call (Value.ref 111) [_]; k_search con_told; intro a' tl' h' tk' F' N' hAb' hDt'; (try k_sweep); (try dsimp only); (try k_fold)))
local macro_rules | `(tactic| walk_at "call ref") => `(tactic| (ktd_call (Value.ref 50) [_, Value.ref _]; k_search con_choose; (case hr => assumption); intro h' tk' F' N'; (try k_sweep); (try dsimp only); (try k_fold)))
local macro_rules | `(tactic| walk_at "call ref") => `(tactic| (ktd_call (Value.ref 178) [_, Value.ref _]; k_search con_order; intro f' fvs' nf' h' tk' F' N' hof' hSf' hzf'; (try k_sweep); (try dsimp only); (try k_fold)))
local macro_rules | `(tactic| walk_at "call type:dict") => `(tactic| (ktd_call (Value.type "dict") [Value.ref _]; k_dflt (refine' dictCopy ?kF ?kN (Top.nolimit (by k_asm)) ?km ?kd ?kl ?kz ?_; (case kF => k_asm); (case kN => k_asm); (case km => k_mem); (case kd => assumption); (case kl => assumption); (case kz => omega)); intro d' h' o' F' N' l1 lo' hd'; (try k_lt l1); (try k_sweep)))
local macro_rules | `(tactic| walk_at "compareOp NotEq ref ref") => `(tactic| (k_here; k_dflt (refine' datNe ?kN ?ka ?ks ?kb ?kt ?ko ?ku ?_; (case kN => k_asm); (case ka => assumption); (case ks => k_subL); (case kb => assumption); (case kt => k_subL); (case ko => assumption); (case ku => (have hcL9 := cLine_is; ktr_room)))))
local macro_rules | `(tactic| walk_at "ItmPost") => `(tactic| (dsimp only [ItmPost]))
local macro_rules | `(tactic| walk_at "getMethod ref") => `(tactic| (k_here; (with_reducible show wpAny _ _ (getMethod (Value.ref _) (Str.ofString "pop") _) _ _ _); k_dflt (refine' kob_method (knd := PySem.strKind _ _) PySem.F.slot_dict_pop PySem.F.type_dict_pop ?kN ?km ?kd ?_; (case kN => k_asm); (case km => k_mem); (case kd => assumption))))
local macro_rules | `(tactic| walk_at "call builtin:dict.pop") => `(tactic| (ktd_call (Value.builtin "dict.pop") [Value.ref _, Value.str _ _]; k_dflt (refine' kob_pop (knd := PySem.strKind _ _) (more := []) ?kF ?kN ?kU ?kd (strKind_is _ _ _ _) (.inl rfl) (by rfl) (PySem.F.args_dict_pop_2 _ _) ?kl ?kz ?_; (case kF => k_asm); (case kN => k_asm); (case kU => k_updF); (case kd => assumption); (case kl => assumption); (case kz => (rw [sizeLine_eq]; omega))); intro h' o' F' N' hd'; (try dsimp only at N'); (try k_sweep)))

theorem chosen_c {prog : Program} {w : World} {p : Program} {loose : List Str} {mean : ExcName → Option Value} {mg mb : Str → Option Value} {R : List (Addr × Obj)} {v : Value} {kvs : List (Str × Value)} {lt : Addr} {tvs : List Value} {ts : List Str} {nl : Nat}
   (H : LayIn prog w R v kvs) (hl : (lt, listOf (List.toArray tvs) nl) ∈ R) (hS : StrsAre tvs ts) (hz : tvs.length ≤ 20) :
   Con prog w (hd.heap_1 w.params) p loose mean mg mb 4 185 [v, .ref lt] R fun r news' => r = .bool true ∧ news' = R := by
  intro dp un gd cn cs a ccd cl outer A₀ base h₀ L m s Q E B F X N T hk hdp hun hret
  have hLy := H.ly
  have hlen := H.len
  have hhd := H.handed
  cases hLy with
  | mk m1 m2 m3 hol lo =>
    have hLy := H.ly
    refine wpAny_call ?_
    k_dflt ktn_open
    k_steps
    (rename Fr _ _ _ _ => F1); (rename News _ _ _ _ => N1)
    rename_i f fvs nf _ _ hof hSf hzf d _ ol lol hdl ld D _ lD _ _ _ _ mx _ lmx _
    have hlf : ∀ p ∈ R, p.1 ≠ d := lt_ne (tb_ltOf ld.2)
    have N2 := news_drop (l' := (d, ol) :: (mx, listOf (List.toArray [.str (Str.ofString "none") _]) 0) :: (f, listOf (List.toArray fvs) nf) :: R) N1 (fun p hp => by
      simp only [List.mem_cons] at hp ⊢
      rcases hp with hp | hp | hp | hp
      · exact .inr (.inr (.inl hp))
      · exact .inl hp
      · exact .inr (.inr (.inr (.inl hp)))
      · exact .inr (.inr (.inr (.inr hp))))
    refine loopS [Str.ofString "tag", Str.ofString "mixed"] (fun vs u news => ∃ W mxa mvs n ms rest, news = (d, ol) :: W ∧ (∀ p ∈ R, p ∈ W) ∧ (f, listOf (List.toArray fvs) nf) ∈ W ∧ (∀ p ∈ W, p.1 ≠ d) ∧ u (Str.ofString "mixed") = some (.ref mxa) ∧ (mxa, listOf (List.toArray mvs) n) ∈ W ∧
      StrsAre mvs ms ∧ StrsAre vs rest ∧ ms ++ mixOf rest = Str.ofString "none" :: mixOf ts ∧ mvs.length + 2 * vs.length ≤ 50) rfl F1 N2 (by k_mem) rfl rfl ?_ ?_ ?_
    · refine ⟨_, mx, _, 0, [Str.ofString "none"], ts, rfl, fun p hp => .tail _ (.tail _ hp), .tail _ (.head _), ?_, rfl, .head _, .cons _ _ .nil, hS, rfl, by simp only [List.length_cons, List.length_nil]; omega⟩
      intro p hp
      rcases List.mem_cons.mp hp with rfl | hp
      · exact Nat.ne_of_gt lmx.2.1
      rcases List.mem_cons.mp hp with rfl | hp
      · exact Nat.ne_of_lt ld.1
      · exact hlf p hp
    · intro I v r u news₁ it h tk hI hlp hit hoff F2 N3
      obtain ⟨W, mxa, mvs, n, ms, rest, rfl, hsub, hfW, hWd, hu, hmx, hms, hvs, heq, hlen2⟩ := hI
      rw [fr_two' hu] at F2
      clear F1 N1 N2
      have hId : @Ne Nat I d := Ne.symm (hoff _ (.head _))
      have hoffW : ∀ p ∈ W, p.1 ≠ I := fun p hp => hoff p (.tail _ hp)
      cases hvs with
      | cons t tk' hvs' =>
        rw [List.length_cons] at hlen2
        k_steps
        refine loopS_end_mix (by k_asm) (by k_asm) (by k_ne) (by k_ne) hoffW (lp_in hlp) ?_ ⟨_, _, _, 0, ms ++ [t, Str.ofString "zzzz"], _, rfl, fun p hp => .tail _ (hsub p hp), .tail _ hfW, ?_, rfl, .head _, StrsAre.app hms (.cons _ _ (.cons _ _ .nil)), hvs', by rw [← heq, List.append_assoc]; rfl, by rw [List.length_append, List.length_cons, List.length_cons, List.length_nil]; omega⟩
        · intro y hy
          have e1 := contains_ne hy (z := Str.ofString "tag") rfl
          have e2 := contains_ne hy (z := Str.ofString "mixed") rfl
          simp only [if_neg e1, if_neg e2]
        · intro p hp
          rcases List.mem_cons.mp hp with rfl | hp
          · k_ne
          · exact hWd p hp
    · intro u news₁ h tk hI F2 N3
      obtain ⟨W, mxa, mvs, n, ms, rest, rfl, hsub, hfW, hWd, hu, hmx, hms, hvs, heq, hlen2⟩ := hI
      rw [fr_two hu] at F2
      clear F1 N1 N2
      cases hvs
      have hms' : ms = Str.ofString "none" :: mixOf ts := by rw [← heq]; exact (List.append_nil ms).symm
      subst hms'
      k_steps
      (rename Fr _ _ _ _ => F4)
      refine loopS [Str.ofString "tag", Str.ofString "row", Str.ofString "chosen"] (fun vs u news => ∃ W2 o' kvs' done rest, news = (d, o') :: W2 ∧ (∀ p ∈ W, p ∈ W2) ∧ (∀ p ∈ W2, p.1 ≠ d) ∧ o'.IsDictOf (PySem.strKind prog w) kvs' ∧ kvs'.length ≤ 10 ∧ LeftOf kvs kvs' done ∧
        StrsAre vs rest ∧ orderOf kvs [] (ts ++ fb) = done ++ rest) rfl F4 N3 (by k_mem) rfl rfl ?_ ?_ ?_
      · exact ⟨W, ol, kvs, [], _, rfl, fun p hp => hp, hWd, hdl, hlen, leftOf_start kvs, hSf, rfl⟩
      · intro I v r u news₁ it h tk hI hlp hit hoff F5 N5
        obtain ⟨W2, o', kvs', done, rest, rfl, hsub2, hW2d, hdo, hlen3, hL, hvs, hord⟩ := hI
        clear F4 N3
        have hId : @Ne Nat I d := Ne.symm (hoff _ (.head _))
        have hoffW : ∀ p ∈ W2, p.1 ≠ I := fun p hp => hoff p (.tail _ hp)
        replace m1 := hsub2 _ (hsub _ m1)
        replace m2 := hsub2 _ (hsub _ m2)
        replace m3 := hsub2 _ (hsub _ m3)
        replace hl := hsub2 _ (hsub _ hl)
        replace hmx := hsub2 _ hmx
        cases hvs with
        | cons t tk' hvs' =>
          rename_i rest'
          have hkn := orderOf_known kvs (ts ++ fb) [] (fun _ h => nomatch h) t (by rw [hord]; simp)
          obtain ⟨sv, hv⟩ := Option.isSome_iff_exists.mp hkn
          have hnd := orderOf_nodup kvs (ts ++ fb) [] List.nodup_nil
          rw [hord] at hnd
          have htd : t ∉ done := fun hx => (List.nodup_append.mp hnd).2.2 t hx t (.head _) rfl
          have hvp : valueAt kvs' t = some sv := by rw [hL t, if_neg htd]; exact hv
          have hf1 := firstOf_left hL hv (ts ++ fb) [] done hord rfl
          have hn1 : valueAt kvs' (Str.ofString "none") = none := by rw [hL]; split; rfl; exact H.no1
          have hn2 : valueAt kvs' (Str.ofString "zzzz") = none := by rw [hL]; split; rfl; exact H.no2
          have hf2 : firstOf kvs' ((Str.ofString "none" :: mixOf ts) ++ fb) = sv := by rw [firstOf_mixed hn1 hn2]; exact hf1
          have hr' : ∀ k v, valueAt kvs' k = some v → handedIn v = true := fun k v e => by
            rw [hL k] at e
            split at e
            · cases e
            · exact hhd k v e
          obtain ⟨DD, hsc, hok⟩ := H.sc t sv hv
          replace hsc := hsc.mono fun p hp => hsub2 p (hsub p hp)
          obtain ⟨sx, sdx, slx, sh1, sh2, sh3, st1, st2, st3, stt, sn, sdv, rfl, sm1, sm2⟩ := hsc.open
          have hok8 := kqd_sc hok
          k_steps
          (rename Fr _ _ _ _ => F6); (rename News _ _ _ _ => N6)
          rename_i T _ lT
          refine tupLoop [Str.ofString "row", Str.ofString "chosen"] (fun xs _ nw => nw = ((T, ({ cls := .type "tuple", data := .seq (List.toArray [.ref lt, .ref mxa]) } : Obj)) :: (I, it) :: (d, o') :: W2) ∧
            ∀ a ∈ xs, ∃ lr rvs rs n, a = Itm.val (.ref lr) ∧ (lr, listOf (List.toArray rvs) n) ∈ W2 ∧ StrsAre rvs rs ∧ rvs.length ≤ 100 ∧ firstOf kvs' (rs ++ fb) = .ref sx) rfl F6 N6 (.head _) rfl rfl ?_ ?_ ?_
          · refine ⟨rfl, fun a ha => ?_⟩
            rcases List.mem_cons.mp ha with rfl | ha
            · exact ⟨lt, tvs, ts, nl, rfl, hl, hS, by omega, hf1⟩
            · rw [List.mem_singleton.mp ha]
              exact ⟨mxa, mvs, _, _, rfl, hmx, hms, by omega, hf2⟩
          · intro I2 a r2 u2 news₁ v2 it2 h tk hI hlpT hit2 hoff2 hv2 F7 N7
            obtain ⟨rfl, hall⟩ := hI
            obtain ⟨lr, rvs, rs, nr, rfl, hlr, hrs, hrl, hfr⟩ := hall _ (.head _)
            have hv2' : v2 = .ref lr := hv2
            subst hv2'
            clear F6 N6 hf1 hf2
            k_steps
            refine itm_end (news' := (T, ({ cls := .type "tuple", data := .seq (List.toArray [.ref lt, .ref mxa]) } : Obj)) :: (I, it) :: (d, o') :: W2) (by k_asm) (by k_asm) (by k_subL) (fun p hp q hq => by rw [List.mem_singleton.mp hq]; exact hoff2 p hp) ⟨.head _, trivial⟩ ?_ ⟨rfl, fun a ha => hall a (.tail _ ha)⟩
            intro y hy
            have e1 := contains_ne hy (z := Str.ofString "row") rfl
            have e2 := contains_ne hy (z := Str.ofString "chosen") rfl
            simp only [if_neg e1, if_neg e2, hy, Bool.false_eq_true, if_false]
          · intro u3 news₁ h tk hI F8 N8
            obtain ⟨rfl, _⟩ := hI
            clear F6 N6
            k_steps
            rename_i o2 F9 N9 hd2
            refine loopS_end (news' := (d, o2) :: W2) F9 N9 (by k_subL) ?_ ?_ ?_ ⟨W2, o2, without kvs' t, done ++ [t], rest', rfl, hsub2, hW2d, hd2, Nat.le_trans (List.length_filter_le _ _) hlen3, leftOf_pop hL, hvs', by rw [hord, List.append_assoc]; rfl⟩
            · intro p hp
              rcases List.mem_cons.mp hp with rfl | hp
              · exact Ne.symm hId
              · exact hoffW p hp
            · exact .tail _ (hsub2 _ hfW)
            · intro y hy
              have e1 := contains_ne hy (z := Str.ofString "tag") rfl
              have e2 := contains_ne hy (z := Str.ofString "row") rfl
              have e3 := contains_ne hy (z := Str.ofString "chosen") rfl
              have e4 : [Str.ofString "row", Str.ofString "chosen"].contains y = false := by simp [e2, e3]
              simp only [e4, if_neg e1, hy, Bool.false_eq_true, if_false]
      · intro u news₁ h tk hI F5 N5
        obtain ⟨W2, o', kvs', done, rest, rfl, hsub2, hW2d, hdo, hlen3, hL, hvs, hord⟩ := hI
        clear F4 N3
        cases hvs
        rw [List.append_nil] at hord
        have hf1 : firstOf kvs' (ts ++ fb) = .none := firstOf_end hL _ fun x hx hk => by rw [← hord]; exact orderOf_all kvs _ _ x hx hk
        have hr' : ∀ k v, valueAt kvs' k = some v → handedIn v = true := fun k v e => by
          rw [hL k] at e
          split at e
          · cases e
          · exact hhd k v e
        replace hl := hsub2 _ (hsub _ hl)
        k_steps
        exact hret _ R _ _ (by k_asm) (news_drop (news_drop (l' := W2) (by assumption) (by k_subL)) (fun p hp => hsub2 p (hsub p hp))) ⟨rfl, rfl⟩

/-! enumerate over a tuple -/
section
variable {prog : Program} {w : World} {A : Around} {E : Value → Shared → Prop} {s : Shared}
theorem tupNext_item {it t : Addr} {i : Nat} {items : Array Value} {x : Value} {Q : Value → Shared → Prop} (hit : s.heap.IsTupleIter it t i) (ht : s.heap.IsTuple t items) (hx : items[i]? = some x)
    (hQ : ∀ h', h'.IsTupleIter it t (i + 1) → Heap.SameBut it s.heap h' → Q x { s with heap := h' }) : wpAny (model prog w) A (Builtin.SmallTypes.nextOf (.ref it)) Q E s := by
  obtain ⟨o, ho, hc, hd⟩ := id hit
  obtain ⟨ol, hol, _, nl, hdl⟩ := ht
  unfold Builtin.SmallTypes.nextOf
  refine wpAny_bind (wpAny_callSpecial?_slot (name := Str.ofString "__next__") hit.typeIs PySem.F.slot_tuple_iterator_next
    (PySem.wpAny_call_entry PySem.F.slot_tuple_iterator_next hit.typeIs PySem.F.entry_tuple_iterator_next ?_ (PySem.F.args_tuple_iterator_next_1 _)))
  show wpAny _ _ (field (.ref it) 0 >>= _) _ _ s
  refine wpAny_bind (wpAny_field ho hd (x := .ref t) rfl ?_)
  show wpAny _ _ (if (Value.ref t == Value.none) = true then _ else _) _ _ s
  rw [if_neg (show ¬ ((Value.ref t == Value.none) = true) from Bool.false_ne_true)]
  show wpAny _ _ (field (.ref it) 1 >>= _) _ _ s
  refine wpAny_bind (wpAny_field ho hd (x := .int i 0) rfl ?_)
  show wpAny _ _ (seqItems? (.ref t) >>= _) _ _ s
  refine wpAny_bind (wpAny_seqItems hol hdl ?_)
  simp only [Int.toNat_natCast, hx]
  refine wpAny_bind (wpAny_setField ho hd (by simp) (wpAny_pure ⟨x, rfl, wpAny_pure (hQ _ ?_ (Heap.SameBut.update ..))⟩))
  exact ⟨_, Heap.get?_update_self _ ho (Obj.isFreed_of_fields (Obj.data_mapFields hd _)), (Obj.cls_mapFields ..).trans hc, by
    rw [Obj.data_mapFields hd]; simp [rawInt]⟩
theorem tupNext_end {it t : Addr} {i : Nat} {items : Array Value} {Q : Value → Shared → Prop} (hh : A.handled = none) (hit : s.heap.IsTupleIter it t i) (ht : s.heap.IsTuple t items) (hx : items[i]? = none)
    (hE : ∀ h' e, Heap.ExtBut it s.heap h' → (∃ o, h'.get? e = some o ∧ o.cls = .type "StopIteration") → E (.ref e) { s with heap := h' }) : wpAny (model prog w) A (Builtin.SmallTypes.nextOf (.ref it)) Q E s := by
  obtain ⟨o, ho, hc, hd⟩ := id hit
  obtain ⟨ol, hol, _, nl, hdl⟩ := ht
  unfold Builtin.SmallTypes.nextOf
  refine wpAny_bind (wpAny_callSpecial?_slot (name := Str.ofString "__next__") hit.typeIs PySem.F.slot_tuple_iterator_next
    (PySem.wpAny_call_entry PySem.F.slot_tuple_iterator_next hit.typeIs PySem.F.entry_tuple_iterator_next ?_ (PySem.F.args_tuple_iterator_next_1 _)))
  show wpAny _ _ (field (.ref it) 0 >>= _) _ _ s
  refine wpAny_bind (wpAny_field ho hd (x := .ref t) rfl ?_)
  show wpAny _ _ (if (Value.ref t == Value.none) = true then _ else _) _ _ s
  rw [if_neg (show ¬ ((Value.ref t == Value.none) = true) from Bool.false_ne_true)]
  show wpAny _ _ (field (.ref it) 1 >>= _) _ _ s
  refine wpAny_bind (wpAny_field ho hd (x := .int i 0) rfl ?_)
  show wpAny _ _ (seqItems? (.ref t) >>= _) _ _ s
  refine wpAny_bind (wpAny_seqItems hol hdl ?_)
  simp only [Int.toNat_natCast, hx]
  refine wpAny_bind (wpAny_rule (wpAny_bind (wpAny_setField ho hd (by simp) ?_)))
  show wpAny _ _ (newExc (.type "StopIteration") [] >>= _) _ _ _
  refine wpAny_bind ?_
  simp only [newExc, newTuple]
  refine wpAny_newObj_type ?_ (by size_fits) |> wpAny_bind
  refine wpAny_bind (m := firstArgMember _ _) (wpAny_of_eq (a := Value.none) (by first | rfl | (simp only [firstArgMember]; rfl)) ?_)
  refine wpAny_newObj_type ?_ (by size_fits)
  simp only [raiseNew]
  refine wpAny_bind (wpAny_handled ?_)
  first | rw [show A.in1.handled = none from hh] | rw [hh]
  refine wpAny_bind (wpAny_pure (wpAny_throw ?_))
  exact hE _ _ (((Heap.SameBut.update ..).extBut.push _).push _) ⟨_, Heap.get?_push_size _ rfl, rfl⟩
end
set_option maxHeartbeats 1000000 in
theorem enumNew_tup (l : Addr) (items : Array Value) (n : Nat) (dct : Option Addr) (sl : Array (Option Value)) :
    Meets (Builtin.«enumerate.__new__» ⟨[.type "enumerate", .ref l], []⟩) (fun _ R s => s.heap.get? l = some { cls := .type "tuple", dict := dct, data := .seq items n, slots := sl } ∧
      R (.ok (.ret (.ref (s.heap.push { cls := .type "tuple_iterator", data := .fields #[.ref l, .int 0 0] }).objs.size)))
        { s with heap := (s.heap.push { cls := .type "tuple_iterator", data := .fields #[.ref l, .int 0 0] }).push { cls := .type "enumerate", data := .fields #[.none, .bool false, .ref s.heap.objs.size, rawInt 0, .none, .none] } }) :=
  .of_wp fun prog w A R s h => by
    obtain ⟨hp, g, d, tk, os⟩ := s; obtain ⟨hl, h⟩ := h
    have hsub := sub_enumerate
    have hL : Heap.IsTuple (Shared.heap ⟨hp, g, d, tk, os⟩) l items := ⟨_, hl, rfl, n, rfl⟩
    wp_walk using AutoSeq1.wpAny_loadPart' hl
    refine wpAny_stack_any fun st => wpAny_pure ?_
    split
    · rename_i c _ _ _ _ _
      cases (c == Value.type "enumerate")
      · wp_walk using AutoSeq1.wpAny_loadPart' hl, wpAny_pyIter_tuple hL
        exact ⟨_, rfl, h⟩
      · wp_walk using AutoSeq1.wpAny_loadPart' hl, wpAny_pyIter_tuple hL
        exact ⟨_, rfl, h⟩
    · wp_walk using AutoSeq1.wpAny_loadPart' hl, wpAny_pyIter_tuple hL
      exact ⟨_, rfl, h⟩

section
variable {prog : Program} {w : World} {A : Around} {E : Value → Shared → Prop} {s : Shared}
theorem enumCall {l : Addr} {items : Array Value} {Q : Value → Shared → Prop} (hL : s.heap.IsTuple l items)
    (h : ∀ h', IsEnum h' (s.heap.objs.size + 1) s.heap.objs.size 0 .none → h'.IsTupleIter s.heap.objs.size l 0 → (∀ b o, s.heap.get? b = some o → h'.get? b = some o) → Q (.ref (s.heap.objs.size + 1)) { s with heap := h' }) :
    wpAny (model prog w) A (call (.type "enumerate") [.ref l]) Q E s := by
  obtain ⟨⟨c, dct, dt, sl⟩, hl, hc, n, hd⟩ := hL
  replace hc : c = .type "tuple" := hc
  replace hd : dt = .seq items n := hd
  subst hc hd
  refine callType_new PySem.F.called_enumerate (by decide) (PySem.F.typeCall_enumerate_1 _) (PySem.F.newCall_enumerate_1 _) (fun obj => PySem.F.args_object_init_2 obj _) PySem.F.entry_enumerate_new
    (enumNew_tup l items n dct sl) ⟨hl, ?_⟩
  have hz : (s.heap.push { cls := .type "tuple_iterator", data := .fields #[.ref l, .int 0 0] }).objs.size = s.heap.objs.size + 1 := Heap.size_push ..
  show _ ∧ _
  rw [hz]
  have he : IsEnum ((s.heap.push { cls := .type "tuple_iterator", data := .fields #[.ref l, .int 0 0] }).push
      { cls := .type "enumerate", data := .fields #[.none, .bool false, .ref s.heap.objs.size, rawInt 0, .none, .none] }) (s.heap.objs.size + 1) s.heap.objs.size 0 .none := by
    have := Heap.get?_push_size (s.heap.push { cls := .type "tuple_iterator", data := .fields #[.ref l, .int 0 0] })
      (o := { cls := .type "enumerate", data := .fields #[.none, .bool false, .ref s.heap.objs.size, rawInt 0, .none, .none] }) rfl
    rw [hz] at this; exact this
  exact ⟨⟨_, he, rfl⟩, h _ he ⟨_, Heap.get?_push_of_some _ (Heap.get?_push_size _ rfl), rfl, rfl⟩ fun b o x => Heap.get?_push_of_some _ (Heap.get?_push_of_some _ x)⟩
/-- the next pair: what is asked of the inner iterator alone -/
theorem enumNext {e it : Addr} {i : Nat} {x old : Value} {Q : Option Value → Shared → Prop} {In : Heap → Prop} (he : IsEnum s.heap e it i old)
    (hin : ∀ (A' : Around) (Q' : Value → Shared → Prop), (∀ h', In h' → Heap.SameBut it s.heap h' → Q' x { s with heap := h' }) → wpAny (model prog w) A' (Builtin.SmallTypes.nextOf (.ref it)) Q' (fun e' s' => ∃ v, False ∧ v = e' ∧ s' = s') s)
    (hk : ∀ h h', In h → (∀ b o, b ≠ e → h.get? b = some o → h'.get? b = some o) → In h') (hne : e ≠ it)
    (hQ : ∀ h', IsEnumOut h' e it ((i : Int) + 1) x s.heap.objs.size → In h' → h'.get? s.heap.objs.size = some { cls := .type "tuple", data := .seq #[.int i s.toks, x] } →
      (∀ b o, b ≠ e → b ≠ it → s.heap.get? b = some o → h'.get? b = some o) → Q (some (.ref s.heap.objs.size)) { s with heap := h', toks := s.toks + 1 }) :
    wpAny (model prog w) A (pyNext (.ref e)) Q E s := by
  have hT : s.TypeIs (.ref e) "enumerate" := ⟨_, he, rfl⟩
  unfold pyNext
  refine wpAny_bind (wpAny_attempt (wpAny_callSpecial?_slot (name := Str.ofString "__next__") hT PySem.F.slot_enumerate_next
    (PySem.wpAny_call_entry PySem.F.slot_enumerate_next hT PySem.F.entry_enumerate_next ?_ (PySem.F.args_enumerate_next_1 _))))
  obtain ⟨hp, g, d, tk, os⟩ := s
  show wpAny _ _ (field (.ref e) 2 >>= _) _ _ _
  refine wpAny_bind (wpAny_field he rfl (x := .ref it) rfl ?_)
  refine wpAny_bind (wpAny_mono (hin _ _ fun h₁ hin₁ hs₁ => ?_) (fun _ _ x => x) fun _ _ z => by obtain ⟨_, z, _⟩ := z; exact z.elim)
  replace hs₁ : Heap.SameBut it hp h₁ := hs₁
  have he₁ : IsEnum h₁ e it i old := (hs₁.2 e hne).trans he
  show wpAny _ _ (field (.ref e) 3 >>= _) _ _ ⟨h₁, g, d, tk, os⟩
  refine wpAny_bind (wpAny_field he₁ rfl (x := rawInt i) rfl ?_)
  show wpAny _ _ (field (.ref e) 4 >>= _) _ _ ⟨h₁, g, d, tk, os⟩
  refine wpAny_bind (wpAny_field he₁ rfl (x := .none) rfl ?_)
  show wpAny _ _ (mkInt i >>= _) _ _ ⟨h₁, g, d, tk, os⟩
  refine wpAny_bind (wpAny_mkInt ?_)
  show wpAny _ _ (setField (.ref e) 3 (rawInt ((i : Int) + 1)) >>= _) _ _ ⟨h₁, g, d, tk + 1, os⟩
  refine wpAny_bind (wpAny_setField_rec he₁ (by simp) fun h₂ he₂ hs₂ => ?_)
  replace hs₂ : Heap.SameBut e h₁ h₂ := hs₂
  replace he₂ : IsEnum h₂ e it ((i : Int) + 1) old := he₂
  show wpAny _ _ (setField (.ref e) 4 .none >>= _) _ _ ⟨h₂, g, d, tk + 1, os⟩
  refine wpAny_bind (wpAny_setField_rec he₂ (by simp) fun h₃ he₃ hs₃ => ?_)
  replace hs₃ : Heap.SameBut e h₂ h₃ := hs₃
  replace he₃ : IsEnum h₃ e it ((i : Int) + 1) old := he₃
  show wpAny _ _ (newTuple [.int i tk, x] >>= _) _ _ ⟨h₃, g, d, tk + 1, os⟩
  refine wpAny_bind (wpAny_newTuple ?_)
  have he₄ : IsEnum (h₃.push { cls := .type "tuple", data := .seq #[.int i tk, x] }) e it ((i : Int) + 1) old := Heap.get?_push_of_some _ he₃
  have hin₄ : In (h₃.push { cls := .type "tuple", data := .seq #[.int i tk, x] }) := hk _ _ hin₁ fun b o hb q => Heap.get?_push_of_some _ (hs₃.extBut b o hb (hs₂.extBut b o hb q))
  generalize hh₄ : h₃.push { cls := .type "tuple", data := .seq #[.int i tk, x] } = h₄ at he₄ hin₄
  have hsz : h₃.objs.size = hp.objs.size := by rw [hs₃.1, hs₂.1, hs₁.1]
  have hel : e < hp.objs.size := Heap.lt_size he
  have ht₄ : h₄.get? hp.objs.size = some { cls := .type "tuple", data := .seq #[.int i tk, x] } := by rw [← hh₄, ← hsz]; exact Heap.get?_push_size _ rfl
  have hk₄ : ∀ b o, b ≠ e → b ≠ it → hp.get? b = some o → h₄.get? b = some o := fun b o hbe hbi hb => by
    rw [← hh₄]; exact Heap.get?_push_of_some _ (hs₃.extBut b o hbe (hs₂.extBut b o hbe (hs₁.extBut b o hbi hb)))
  show wpAny _ _ (Builtin.SmallTypes.ownedTupleIsFree (.ref e) >>= _) _ _ ⟨h₄, g, d, tk + 1, os⟩
  rw [hsz]
  clear hh₄ he₃ hs₃ he₂ hs₂ he₁ hs₁ hin₁ hsz h₃ h₂ h₁
  refine wpAny_bind ?_
  unfold Builtin.SmallTypes.ownedTupleIsFree
  refine wpAny_bind (wpAny_field he₄ rfl (x := .none) rfl (wpAny_pure ?_))
  simp only [if_true]
  refine wpAny_bind (wpAny_rule ?_)
  refine wpAny_bind (wpAny_field he₄ rfl (x := old) rfl ?_)
  refine wpAny_bind (wpAny_setField_rec he₄ (by simp) fun h₅ he₅ hs₅ => ?_)
  replace hs₅ : Heap.SameBut e h₄ h₅ := hs₅
  replace he₅ : IsEnum h₅ e it ((i : Int) + 1) x := he₅
  show wpAny _ _ (Builtin.SmallTypes.ownedTupleHandOut (.ref e) (.ref hp.objs.size) >>= _) _ _ ⟨h₅, g, d, tk + 1, os⟩
  refine wpAny_bind ?_
  unfold Builtin.SmallTypes.ownedTupleHandOut
  refine wpAny_bind (wpAny_setField_rec he₅ (by simp) fun h₆ he₆ hs₆ => ?_)
  replace hs₆ : Heap.SameBut e h₅ h₆ := hs₆
  replace he₆ : IsEnumOut h₆ e it ((i : Int) + 1) x hp.objs.size := he₆
  refine wpAny_setField_rec he₆ (by simp) fun h₇ he₇ hs₇ => ?_
  replace hs₇ : Heap.SameBut e h₆ h₇ := hs₇
  replace he₇ : IsEnumOut h₇ e it ((i : Int) + 1) x hp.objs.size := he₇
  have up : ∀ b o, b ≠ e → h₄.get? b = some o → h₇.get? b = some o := fun b o hb q => hs₇.extBut b o hb (hs₆.extBut b o hb (hs₅.extBut b o hb q))
  exact wpAny_bind (wpAny_letGo (wpAny_pure ⟨_, rfl, wpAny_pure (hQ h₇ he₇ (hk _ _ hin₄ up) (up _ _ (Nat.ne_of_gt hel) ht₄) fun b o hbe hbi hb => up b o hbe (hk₄ b o hbe hbi hb))⟩))
theorem enumNext_end {e it l : Addr} {i : Nat} {items : Array Value} {old : Value} {Q : Option Value → Shared → Prop} (hh : A.handled = none)
    (he : IsEnum s.heap e it i old) (hit : s.heap.IsTupleIter it l i) (hl : s.heap.IsTuple l items) (hx : items[i]? = none)
    (hQ : ∀ h', Heap.ExtBut it s.heap h' → Q none { s with heap := h' }) : wpAny (model prog w) A (pyNext (.ref e)) Q E s := by
  have hT : s.TypeIs (.ref e) "enumerate" := ⟨_, he, rfl⟩
  unfold pyNext
  refine wpAny_bind (wpAny_attempt (wpAny_callSpecial?_slot (name := Str.ofString "__next__") hT PySem.F.slot_enumerate_next
    (PySem.wpAny_call_entry PySem.F.slot_enumerate_next hT PySem.F.entry_enumerate_next ?_ (PySem.F.args_enumerate_next_1 _))))
  show wpAny _ _ (field (.ref e) 2 >>= _) _ _ _
  refine wpAny_bind (wpAny_field he rfl (x := .ref it) rfl ?_)
  refine wpAny_bind (tupNext_end hh hit hl hx fun h' x he' hx' => ?_)
  obtain ⟨o, ho, hc⟩ := hx'
  refine wpAny_bind (wpAny_isInstance (T := "StopIteration") (b := true) ⟨o, ho, hc⟩ isSubtype_stop ?_)
  exact wpAny_pure (hQ _ he')
end

theorem enumWalks {prog : Program} {w : World} {A : Around} (hh : A.handled = none) (e it l : Addr) (hei : e ≠ it) (hle : l ≠ e) (hli : l ≠ it) (items : Array Value) :
    WalksU prog w A e [e, it, l] [e, it] items.size (fun i vals => ∃ t x, items[i]? = some x ∧ vals = #[.int i t, x])
      (fun i h => (∃ old, IsEnum h e it i old) ∧ h.IsTupleIter it l i ∧ h.IsTuple l items)
      (fun i T h => (∃ x, IsEnumOut h e it ((i : Int) + 1) x T) ∧ h.IsTupleIter it l (i + 1) ∧ h.IsTuple l items ∧ T ≠ e ∧ T ≠ it) where
  sub := fun b hb => by simp only [List.mem_cons, List.not_mem_nil, or_false] at hb ⊢; rcases hb with h | h <;> simp [h]
  frame := fun i h h' ⟨⟨old, he⟩, hit, hl⟩ hk => ⟨⟨old, hk e (by simp) _ he⟩, hit.at fun o x => hk it (by simp) o x, hl.at fun o x => hk l (by simp) o x⟩
  item := fun i s Q E hi ⟨⟨old, he⟩, hit, hl⟩ hQ => by
    have hx : items[i]? = some items[i] := Array.getElem?_eq_getElem hi
    have hilt : it < s.heap.objs.size := by obtain ⟨_, x, _⟩ := hit; exact Heap.lt_size x
    refine enumNext (In := fun h => h.IsTupleIter it l (i + 1) ∧ h.IsTuple l items) he (fun A' Q' hq => tupNext_item hit hl hx fun h' a b => hq h' ⟨a, hl.extBut b.extBut hli⟩ b)
      (fun h h' ⟨a, b⟩ hk => ⟨a.at fun o x => hk it o hei.symm x, b.at fun o x => hk l o hle x⟩) hei fun h' ho ⟨a, b⟩ hT hk => ?_
    exact hQ s.heap.objs.size #[.int i s.toks, items[i]] h' (s.toks + 1) ⟨_, _, hx, rfl⟩ ⟨_, hT, rfl, _, rfl⟩ ⟨⟨_, ho⟩, a, b, Nat.ne_of_gt (Heap.lt_size he), Nat.ne_of_gt hilt⟩
      fun b o hb x => hk b o (fun e' => hb (by simp [e'])) (fun e' => hb (by simp [e'])) x
  go := fun elts k pos i T s Q E ⟨⟨x, ho⟩, hit, hl, _, _⟩ hQ =>
    wpAny_letOwnedTupleGo_enum ho fun h' he' hs' => hQ h' ⟨⟨x, by simpa using he'⟩, hit.at fun o y => (hs'.2 it hei.symm).trans y, hl.at fun o y => (hs'.2 l hle).trans y⟩ fun b o hb y =>
      (hs'.2 b fun e' => hb (by simp [e'])).trans y
  apart := fun i T h ⟨_, _, _, a, b⟩ hT => by
    simp only [List.mem_cons, List.not_mem_nil, or_false] at hT
    exact hT.elim a b
  done := fun s Q E ⟨⟨old, he⟩, hit, hl⟩ hQ =>
    enumNext_end hh he hit hl (Array.getElem?_eq_none (Nat.le_refl _)) fun h' hx => hQ h' s.toks fun b o hb y => hx b o (fun e' => hb (by simp [e'])) y
  self := fun i s Q E ⟨⟨old, he⟩, _, _⟩ hQ => wpAny_pyIter_enum he hQ

def EnumEnd (h₀ : Heap) (L : Addr) (stored : List Str) (m₀ : Str → Option Value) (Inv : Nat → (Str → Option Value) → List (Addr × Obj) → Prop) (s₁ : Shared) (e it : Addr) (oe oi : Obj) (i : Nat) (s₂ : Shared) : Prop :=
  ∃ h' tk u' news', s₂ = { s₁ with heap := h', toks := tk } ∧ Fr h₀ L h' (fun y => if stored.contains y then u' y else m₀ y) ∧ News h₀ L h' ((e, oe) :: (it, oi) :: news') ∧ (∀ p ∈ news', p.1 ≠ e ∧ p.1 ≠ it) ∧ Inv (i + 1) u' news'
def EnumPost (h₀ : Heap) (L : Addr) (stored : List Str) (m₀ : Str → Option Value) (Inv : Nat → (Str → Option Value) → List (Addr × Obj) → Prop) (s₁ : Shared) (e it : Addr) (oe oi : Obj) (i : Nat) (Q : Flow → Shared → Prop) (f : Flow) (s₂ : Shared) : Prop :=
  match f with
  | .ret v => Q (.ret v) s₂
  | .brk => Q .next s₂
  | _ => EnumEnd h₀ L stored m₀ Inv s₁ e it oe oi i s₂
section
variable {prog : Program} {w : World} {A : Around} {E : Value → Shared → Prop} {s : Shared} {env : Env} {h₀ : Heap} {body : List Stmt} {Q : Flow → Shared → Prop}
theorem enum_end {L : Addr} {stored : List Str} {m₀ m' : Str → Option Value} {Inv : Nat → (Str → Option Value) → List (Addr × Obj) → Prop} {s₁ : Shared} {e it : Addr} {oe oi : Obj} {i : Nat} {h' : Heap} {tk : Nat} {news' all : List (Addr × Obj)}
    (F : Fr h₀ L h' m') (N : News h₀ L h' all) (hs : ∀ p ∈ (e, oe) :: (it, oi) :: news', p ∈ all) (hoff : ∀ p ∈ news', p.1 ≠ e ∧ p.1 ≠ it) (hm : ∀ y, stored.contains y = false → m' y = m₀ y) (hI : Inv (i + 1) m' news') :
    EnumEnd h₀ L stored m₀ Inv s₁ e it oe oi i { s₁ with heap := h', toks := tk } := by
  have q : m' = fun y => if stored.contains y then m' y else m₀ y := by
    funext y
    cases h : stored.contains y with
    | true => simp
    | false => simp only [Bool.false_eq_true, if_false]; exact hm y h
  exact ⟨h', tk, m', news', rfl, Eq.subst (motive := fun z => Fr _ L h' z) q F, news_drop N hs, hoff, hI⟩
theorem enumLoop {elts : List Expr} {k : Nat} {pos : Pos} (stored : List Str) (Inv : Nat → (Str → Option Value) → List (Addr × Obj) → Prop) {l : Addr} {items : Array Value} {m₀ : Str → Option Value} {news : List (Addr × Obj)}
    (hh : A.handled = none) (hl : h₀.IsTuple l items) (F : Fr h₀ env.locals s.heap m₀) (N : News h₀ env.locals s.heap news) (h0 : Inv 0 m₀ news)
    (turn : ∀ (e it : Nat) oe oi i x t T u news₁ h tk, items[i]? = some x → Inv i u news₁ → (∀ p ∈ news₁, p.1 ≠ e ∧ p.1 ≠ it) → e ≠ it → IsTup h T #[.int (i : Nat) t, x] → Fr h₀ env.locals h (fun y => if stored.contains y then u y else m₀ y) → News h₀ env.locals h ((e, oe) :: (it, oi) :: news₁) →
      wpAny (model prog w) A (assign (.Tuple elts k pos) env (.ref T)) (fun _ s₂ => wpAny (model prog w) A (execs body env) (EnumPost h₀ env.locals stored m₀ Inv { s with heap := h, toks := tk } e it oe oi i Q) E s₂) E { s with heap := h, toks := tk })
    (done : ∀ u news₁ h tk, Inv items.size u news₁ → Fr h₀ env.locals h (fun y => if stored.contains y then u y else m₀ y) → News h₀ env.locals h news₁ → Q .next { s with heap := h, toks := tk }) :
    wpAny (model prog w) A (call (.type "enumerate") [.ref l]) (fun xv s₁ => wpAny (model prog w) A (pyIter xv) (fun it s₂ => TurnsAt prog w A h₀ env (.Tuple elts k pos) body Q E it s₂) E s₁) E s := by
  have hls : s.heap.IsTuple l items := hl.at fun o e => F.keep l o e
  obtain ⟨ol, hol, _⟩ := id hl
  have hl0 : h₀.get? l ≠ none := by rw [hol]; exact fun h => nomatch h
  have hlt : l < s.heap.objs.size := Heap.lt_size (F.keep _ _ hol)
  have hLs : env.locals < s.heap.objs.size := F.ns.lt
  refine enumCall hls fun h' hE hI hk => ?_
  refine wpAny_pyIter_enum hE ?_
  have hLl : env.locals ≠ l := fun q => absurd (Nat.lt_of_lt_of_le (Heap.lt_size hol) F.above) (by rw [← q]; exact Nat.lt_irrefl _)
  have he0 : h₀.get? (s.heap.objs.size + 1) = none := ktu_new F (Nat.le_add_right _ _)
  have hi0 : h₀.get? s.heap.objs.size = none := ktu_new F (Nat.le_refl _)
  have W := KTurns.ofWalksU (elts := elts) (k := k) (pos := pos) (enumWalks (prog := prog) (w := w) hh (s.heap.objs.size + 1) s.heap.objs.size l (Nat.succ_ne_self _) (ktu_ne 1 hlt) (Nat.ne_of_lt hlt) items)
  refine ⟨_, _, _, _, _, _, _, m₀, news, (fun i m₁ news₁ => ∃ u, m₁ = (fun y => if stored.contains y then u y else m₀ y) ∧ Inv i u news₁), rfl, W, ?_, ?_, ?_, ⟨⟨_, hE⟩, hI, hls.at fun o e => hk l o e⟩, F.keeps hk, N.grown hk, ⟨m₀, stored_self stored m₀, h0⟩, ?_, ?_⟩
  · intro hm
    simp only [List.mem_cons, List.not_mem_nil, or_false] at hm
    rcases hm with q | q | q
    · exact ktu_ne 1 hLs q
    · exact Nat.ne_of_lt hLs q
    · exact hLl q
  · intro b hb
    simp only [List.mem_cons, List.not_mem_nil, or_false] at hb
    rcases hb with rfl | rfl
    · exact he0
    · exact hi0
  · intro p hp hb
    have hlp := Heap.lt_size (N p hp).1
    simp only [List.mem_cons, List.not_mem_nil, or_false] at hb
    rcases hb with q | q
    · exact ktu_ne 1 hlp q
    · exact Nat.ne_of_lt hlp q
  · rintro i v m₁ news₁ h₁ tk₁ own hin ⟨T, vals, rfl, ⟨t, x, hx, rfl⟩, hT⟩ ⟨u, rfl, hInv⟩ hoff hown hget hall ⟨⟨old, he₁⟩, ⟨oi, hoi, _⟩, _⟩ F₁ N₁
    obtain ⟨oe, hoe⟩ : ∃ oe, h₁.get? (s.heap.objs.size + 1) = some oe := ⟨_, he₁⟩
    have me := hall _ (by simp) he0 _ hoe
    have mi := hall _ (by simp) hi0 _ hoi
    have off' : ∀ p ∈ news₁, p.1 ≠ s.heap.objs.size + 1 ∧ p.1 ≠ s.heap.objs.size := fun p hp => ⟨fun q => hoff p hp (by simp [q]), fun q => hoff p hp (by simp [q])⟩
    have N₂ : News h₀ env.locals h₁ ((s.heap.objs.size + 1, oe) :: (s.heap.objs.size, oi) :: news₁) := fun p hp => by
      rcases List.mem_cons.mp hp with rfl | hp
      · exact N₁ _ (List.mem_append_left _ me)
      rcases List.mem_cons.mp hp with rfl | hp
      · exact N₁ _ (List.mem_append_left _ mi)
      · exact N₁ _ (List.mem_append_right _ hp)
    refine wpAny_mono (turn (s.heap.objs.size + 1) s.heap.objs.size oe oi i x t T u news₁ h₁ tk₁ hx hInv off' (Nat.succ_ne_self _) hT F₁ N₂) (fun _ s₂ h₂ => wpAny_mono h₂ (fun f s₃ hp => ?_) fun _ _ e => e) fun _ _ e => e
    have fin : EnumEnd h₀ env.locals stored m₀ Inv { s with heap := h₁, toks := tk₁ } (s.heap.objs.size + 1) s.heap.objs.size oe oi i s₃ →
        LoopStepU h₀ env.locals [s.heap.objs.size + 1, s.heap.objs.size] own (fun m₁ news₁ => ∃ u, m₁ = (fun y => if stored.contains y then u y else m₀ y) ∧ Inv (i + 1) u news₁) { s with heap := h₁, toks := tk₁ } .next s₃ := by
      rintro ⟨h', tk, u', news', rfl, F', N', off'', hI'⟩
      refine ⟨rfl, h', tk, _, news', rfl, F', fun p hp => ?_, fun p hp hq => ?_, u', rfl, hI'⟩
      · rcases List.mem_append.mp hp with hp | hp
        · have h1 := hget p hp
          have h2 := hown p hp
          obtain ⟨pa, po⟩ := p
          simp only [List.mem_cons, List.not_mem_nil, or_false] at h2
          rcases h2 with rfl | rfl | rfl
          · rw [hoe] at h1; cases h1; exact N' _ (.head _)
          · rw [hoi] at h1; cases h1; exact N' _ (.tail _ (.head _))
          · exact absurd (N₁ _ (List.mem_append_left _ hp)).2.2 hl0
        · exact N' _ (.tail _ (.tail _ hp))
      · simp only [List.mem_cons, List.not_mem_nil, or_false] at hq
        exact hq.elim (off'' p hp).1 (off'' p hp).2
    cases f with
    | ret v => exact .ret hp
    | brk => exact .brk hp
    | next => exact .next (fin hp)
    | cont => exact .cont (fin hp)
  · rintro h' tk m' news' F' N' _ ⟨u, rfl, hInv⟩
    exact done u news' h' tk hInv F' N'
end

section
variable {prog : Program} {w : World} {A : Around} {E : Value → Shared → Prop} {s : Shared} {h₀ : Heap} {L l : Addr} {m : Str → Option Value} {news : List (Addr × Obj)} {value slice : PySem.Expr} {n : Nat} {a b : Value} {dd : Int} {td : Tok} {Q : Value → Shared → Prop}
theorem pick_three {k : Nat} (h : k < 3) : kms_pick [a, b] (some (k : Int)) none = [a, b].drop k := by
  match k, h with
  | 0, _ => rfl
  | 1, _ => rfl
  | 2, _ => rfl
theorem slice_three (F : Fr h₀ L s.heap m) (N : News h₀ L s.heap news) (hm : (l, listOf (List.toArray [a, b]) n) ∈ news) (h0 : 0 ≤ dd) (h3 : dd < 3)
    (h : ∀ D h' k, k < 3 → Fr h₀ L h' m → News h₀ L h' ((D, listOf (List.toArray ([a, b].drop k)) 0) :: news) → (∀ p ∈ news, p.1 < D) → Q (.ref D) { s with heap := h' })
    (hs : subscripted slice false (.ref l) (.ref s.heap.objs.size) = operate [.ref s.heap.objs.size, .ref l] (getItem (.ref l) (.ref s.heap.objs.size))) (ht : ∀ r, letTemporaryGo value (.ref l) r = pure ()) :
    wpAny (model prog w) A (subscriptTail value slice (.ref l) (.ref s.heap.objs.size)) Q E { s with heap := s.heap.push { cls := .type "slice", data := .fields #[.int dd td, .none, .none] } } := by
  have e : ((dd.toNat : Nat) : Int) = dd := by omega
  exact kms_slice_lit F N (led_list (R := news) N hm fun _ h => h) (.int dd td) .none (by rw [← e]; exact pick_three (by omega)) (fun D h' F' N' l1 => h D h' dd.toNat (by omega) F' N' l1) hs ht (by rw [List.size_toArray, sizeLine_eq]; exact Nat.le_of_ble_eq_true rfl)
end

theorem valueAt_add {kvs : List (Str × Value)} {tg : Str} {v : Value} (h : valueAt kvs tg = none) (k : Str) : valueAt (kvs ++ [(tg, v)]) k = if k = tg then some v else valueAt kvs k := by
  unfold valueAt at h ⊢
  rw [List.find?_append]
  by_cases e : k = tg
  · subst e
    have hn : kvs.find? (fun kv => decide (kv.1 = k)) = none := Option.map_eq_none_iff.mp h
    rw [hn, if_pos rfl]
    simp
  · rw [if_neg e]
    have : ([(tg, v)] : List (Str × Value)).find? (fun kv => decide (kv.1 = k)) = none := by
      simp [Ne.symm e]
    rw [this, Option.or_none]
theorem lg_of {R : List (Addr × Obj)} {sp : Int} {lkv : List (Str × Value)} {kk : Nat} (hkk : kk < 3) (hl : lkv.map (·.1) = [Str.ofString "URD ", Str.ofString "ARA "].drop kk) (h : ∀ p ∈ lkv, LsIn R p.2 sp 1) : LgIn R lkv sp kk := by
  match kk, hkk with
  | 0, _ =>
    match lkv, hl, h with
    | [(a, v1), (b, v2)], hl, h =>
      simp only [List.map_cons, List.map_nil, List.drop_zero, List.cons.injEq, and_true] at hl
      obtain ⟨rfl, rfl⟩ := hl
      exact .two (h _ (.head _)) (h _ (.tail _ (.head _)))
    | [], hl, _ => simp at hl
    | [_], hl, _ => simp at hl
    | _ :: _ :: _ :: _, hl, _ => simp at hl
  | 1, _ =>
    match lkv, hl, h with
    | [(a, v1)], hl, h =>
      have : a = Str.ofString "ARA " := by simpa using hl
      subst this
      exact .one (h _ (.head _))
    | [], hl, _ => simp at hl
    | _ :: _ :: _, hl, _ => simp at hl
  | 2, _ =>
    match lkv, hl, h with
    | [], _, _ => exact .zero
    | _ :: _, hl, _ => simp at hl
theorem lang_new {lkv : List (Str × Value)} {kk : Nat} {lg : Str} {ys : List Str} (h : lkv.map (·.1) ++ lg :: ys = [Str.ofString "URD ", Str.ofString "ARA "].drop kk) : valueAt lkv lg = none := by
  refine valueAt_none_of_not_mem fun hm => ?_
  have nd : ([Str.ofString "URD ", Str.ofString "ARA "].drop kk).Nodup := (List.drop_sublist _ _).nodup (by decide +kernel)
  rw [← h] at nd
  exact (List.nodup_append.mp nd).2.2 _ hm _ (.head _) rfl
/-- the new objects of a turn go behind the others -/
theorem lang_end {Inv : List Value → List (Addr × Obj) → Prop} {I L dl : Nat} {DD : Nat} {lo : Obj} {it ol' o9 : Obj} {x : Str} {r : List Value} {v : Value} {m₀ : Str → Option Value} {s₁ : Shared} {h₀ h' : Heap} {tk : Nat} {q1 q2 q3 q4 c1 c2 c3 c4 c5 : Addr × Obj} {W2 : List (Addr × Obj)}
    (F : Fr h₀ L h' (fun y => if y = x then some v else m₀ y)) (N : News h₀ L h' (q1 :: q2 :: q3 :: q4 :: (I, it) :: (dl, o9) :: c1 :: c2 :: c3 :: c4 :: c5 :: W2))
    (hoff : ∀ p ∈ (dl, ol') :: c1 :: c2 :: c3 :: c4 :: c5 :: W2, p.1 ≠ I) (hlp : (DD, lo) ∈ (dl, ol') :: c1 :: c2 :: c3 :: c4 :: c5 :: W2) (hne : DD ≠ dl) (f1 : @Ne Nat q1.1 I) (f2 : @Ne Nat q2.1 I) (f3 : @Ne Nat q3.1 I) (f4 : @Ne Nat q4.1 I)
    (hI : Inv r ((dl, o9) :: c1 :: c2 :: c3 :: c4 :: c5 :: q1 :: q2 :: q3 :: q4 :: W2)) :
    LoopEnd h₀ L (DD, lo) (fun (u : Option Value) y => if y = x then u else m₀ y) (fun vs _ nw => Inv vs nw) s₁ I it r { s₁ with heap := h', toks := tk } := by
  refine loopP_end F N (news' := (dl, o9) :: c1 :: c2 :: c3 :: c4 :: c5 :: q1 :: q2 :: q3 :: q4 :: W2) ?_ ?_ ?_ hI
  · intro p hp
    simp only [List.mem_cons] at hp ⊢
    rcases hp with hp | hp | hp | hp | hp | hp | hp | hp | hp | hp | hp | hp <;> simp only [hp, true_or, or_true]
  · intro p hp
    simp only [List.mem_cons] at hp hoff
    rcases hp with hp | hp | hp | hp | hp | hp | hp | hp | hp | hp | hp
    · rw [hp]; exact hoff (dl, ol') (.inl rfl)
    · exact hoff p (.inr (.inl hp))
    · exact hoff p (.inr (.inr (.inl hp)))
    · exact hoff p (.inr (.inr (.inr (.inl hp))))
    · exact hoff p (.inr (.inr (.inr (.inr (.inl hp)))))
    · exact hoff p (.inr (.inr (.inr (.inr (.inr (.inl hp))))))
    · rw [hp]; exact f1
    · rw [hp]; exact f2
    · rw [hp]; exact f3
    · rw [hp]; exact f4
    · exact hoff p (.inr (.inr (.inr (.inr (.inr (.inr hp))))))
  · simp only [List.mem_cons] at hlp ⊢
    rcases hlp with hp | hp | hp | hp | hp | hp | hp
    · exact absurd (congrArg (·.1) hp) hne
    all_goals simp only [hp, true_or, or_true]
theorem off_add {q : Addr × Obj} {W : List (Addr × Obj)} {c : Nat} (h : @Ne Nat q.1 c) (hW : ∀ p ∈ W, p.1 ≠ c) : ∀ p ∈ q :: W, p.1 ≠ c := fun p hp => by
  rcases List.mem_cons.mp hp with rfl | hp
  · exact h
  · exact hW p hp

local macro_rules | `(tactic| walk_at "exec For Tuple Call") => `(tactic| (k_here; (rename Fr _ _ _ _ => lF'); (with_unfolding_all refine' For_turns lF' ?_; k_whole)))
local macro_rules | `(tactic| walk_at "exec For Tuple Call cons nil") => `(tactic| (k_here; (rename Fr _ _ _ _ => lF'); (with_unfolding_all refine' For_turns lF' ?_; k_whole)))
local macro_rules | `(tactic| walk_at "EnumPost") => `(tactic| (dsimp only [EnumPost]))
local macro_rules | `(tactic| walk_at "subscriptTail Name Slice ref ref") => `(tactic| (k_here; (with_reducible show wpAny _ _ (subscriptTail _ (PySem.Expr.Slice _ _ none _) (Value.ref _) (Value.ref _)) _ _ _); k_dflt (refine' slice_three ?F ?N ?m ?h0 ?h3 ?_ ?s ?t; (case F => k_asm); (case N => k_asm); (case m => k_mem); (case h0 => assumption); (case h3 => assumption); (case s => with_unfolding_all rfl); (case t => kmk_pure)); intro D' h' k' hk' F' N' l1; (try k_lt l1); (try k_sweep)))
local macro_rules | `(tactic| walk_at "setItem ref str") => `(tactic| (k_here; (with_reducible show wpAny _ _ (setItem (Value.ref _) (Value.str _ _) (Value.ref _)) _ _ _); k_dflt (refine' kda_set (knd := PySem.strKind _ _) ?kF ?kN ?kU ?kd (strKind_is _ _ _ _) ?kz ?_; (case kF => k_asm); (case kN => k_asm); (case kU => k_updF); (case kd => assumption); (case kz => (rw [sizeLine_eq]; first | omega | assumption))); intro h' o' F' N' hd'; (try dsimp only at N'); (try k_sweep)))

abbrev knownT : List Str := [Str.ofString "arab", Str.ofString "dev2", Str.ofString "deva", Str.ofString "latn", Str.ofString "DFLT", Str.ofString "dflt", Str.ofString "cyrl"]
theorem top_tuple {K : Frag} {h : Heap} {t : Addr} {od : Option Addr} {its : Array Value} {ep : Nat} {sl : Array (Option Value)} (X : K.In h) (e : K.lookup t = some ⟨.type "tuple", od, .seq its ep, sl⟩) : h.IsTuple t its := ⟨_, X _ _ e, rfl, _, rfl⟩
theorem strsAre_get : ∀ {vs : List Value} {ss : List Str}, StrsAre vs ss → ∀ {i : Nat} {x : Value}, vs[i]? = some x → ∃ tg tk, x = .str tg tk ∧ ss[i]? = some tg
  | _, _, .nil, _, _, h => by simp at h
  | _, _, .cons y t r, 0, x, h => ⟨y, t, by simpa using h.symm, rfl⟩
  | _, _, .cons y t r, i + 1, x, h => strsAre_get r (by simpa using h)
theorem strs_drop : ∀ {vs : List Value} {ss : List Str}, StrsAre vs ss → ∀ k, StrsAre (vs.drop k) (ss.drop k)
  | _, _, h, 0 => h
  | _, _, .nil, _ + 1 => .nil
  | _, _, .cons _ _ r, k + 1 => strs_drop r k
theorem known_at {i : Nat} {tg : Str} (h : knownT[i]? = some tg) : i < 7 ∧ PyData.strOk tg = true ∧ tg ∉ knownT.take i ∧ tg ∈ knownT.take (i + 1) := by
  have hi : i < 7 := by
    rcases Nat.lt_or_ge i 7 with q | q
    · exact q
    · rw [List.getElem?_eq_none (by simpa using q)] at h; cases h
  have all : ∀ j : Fin 7, PyData.strOk (knownT.getD j Str.empty) = true ∧ (knownT.take j).contains (knownT.getD j Str.empty) = false ∧ (knownT.take (j + 1)).contains (knownT.getD j Str.empty) = true := by decide +kernel
  have e : knownT.getD i Str.empty = tg := by rw [List.getD_eq_getElem?_getD, h]; rfl
  obtain ⟨a, b, c⟩ := all ⟨i, hi⟩
  simp only at a b c
  rw [e] at a b c
  exact ⟨hi, a, fun hx => (by rw [List.contains_iff_mem.mpr hx] at b; exact absurd b (by decide)), List.contains_iff_mem.mp c⟩
/-- the scripts of a layout that is being built: of the first i tags -/
structure KvOk (prog : Program) (w : World) (W : List (Addr × Obj)) (kvs : List (Str × Value)) (i : Nat) : Prop where
  sc : ∀ k u, valueAt kvs k = some u → ∃ D, ScIn prog w W u D ∧ PyData.strOk D.tag = true
  key : ∀ k, (valueAt kvs k).isSome = true → k ∈ knownT.take i
  len : kvs.length ≤ i
theorem KvOk.mono {prog : Program} {w : World} {W W' : List (Addr × Obj)} {kvs : List (Str × Value)} {i : Nat} (h : KvOk prog w W kvs i) (hs : ∀ p ∈ W, p ∈ W') : KvOk prog w W' kvs i :=
  ⟨fun k u e => let ⟨D, a, b⟩ := h.sc k u e; ⟨D, a.mono hs, b⟩, h.key, h.len⟩
theorem known_ok {k : Str} (h : k ∈ knownT) : PyData.strOk k = true := by
  have all : knownT.all (fun k => PyData.strOk k) = true := by decide +kernel
  exact List.all_eq_true.mp all k h
theorem take_sub {i : Nat} {k : Str} (h : k ∈ knownT.take i) : k ∈ knownT.take (i + 1) := by
  rw [List.take_add_one]; exact List.mem_append.mpr (.inl h)
theorem KvOk.add {prog : Program} {w : World} {W W' : List (Addr × Obj)} {kvs : List (Str × Value)} {i : Nat} {tg : Str} {v : Value} {D : SD} (h : KvOk prog w W kvs i) (hs : ∀ p ∈ W, p ∈ W') (hn : valueAt kvs tg = none) (hm : tg ∈ knownT.take (i + 1)) (S : ScIn prog w W' v D) (hok : PyData.strOk D.tag = true) : KvOk prog w W' (kvs ++ [(tg, v)]) (i + 1) := by
  refine ⟨fun k u e => ?_, fun k e => ?_, ?_⟩
  · rw [valueAt_add hn] at e
    by_cases q : k = tg
    · rw [if_pos q] at e; cases e; exact ⟨D, S, hok⟩
    · rw [if_neg q] at e
      obtain ⟨D', a, b⟩ := h.sc k u e
      exact ⟨D', a.mono hs, b⟩
  · rw [valueAt_add hn] at e
    by_cases q : k = tg
    · rw [q]; exact hm
    · rw [if_neg q] at e; exact take_sub (h.key k e)
  · rw [List.length_append]; exact Nat.succ_le_succ h.len
theorem tag_endZ {prog : Program} {w : World} {R W W2 Z : List (Addr × Obj)} {h₀ h' : Heap} {L : Addr} {m₀ m' : Str → Option Value} {stored : List Str} {s₁ : Shared} {e it d pa qa i tk : Nat} {oe oi o9 p1 p2 : Obj} {kvs : List (Str × Value)} {tg : Str} {v : Value} {D : SD}
    (F : Fr h₀ L h' m') (N : News h₀ L h' (Z ++ (e, oe) :: (it, oi) :: (d, o9) :: (pa, p1) :: (qa, p2) :: W2)) (hm : ∀ y, stored.contains y = false → m' y = m₀ y)
    (z1 : ∀ p ∈ Z ++ W2, p.1 ≠ e) (z2 : ∀ p ∈ Z ++ W2, p.1 ≠ it) (z3 : ∀ p ∈ Z ++ W2, p.1 ≠ d) (z4 : ∀ p ∈ Z ++ W2, p.1 ≠ pa) (z5 : ∀ p ∈ Z ++ W2, p.1 ≠ qa)
    (a1 : @Ne Nat e d) (a2 : @Ne Nat it d) (a3 : @Ne Nat e pa) (a4 : @Ne Nat it pa) (a5 : @Ne Nat e qa) (a6 : @Ne Nat it qa) (hR : ∀ p ∈ R, p ∈ W) (hW : ∀ p ∈ W, p ∈ W2)
    (hd9 : o9.IsDictOf (PySem.strKind prog w) (kvs ++ [(tg, v)])) (hP : PenOk qa p1 p2) (hkv : KvOk prog w W kvs i) (hvn : valueAt kvs tg = none) (htm : tg ∈ knownT.take (i + 1)) (S : ScIn prog w (Z ++ W2) v D) (htok : PyData.strOk D.tag = true) :
    EnumEnd h₀ L stored m₀ (fun i _ nw => ∃ o kvs W o1' o2', nw = (d, o) :: (pa, o1') :: (qa, o2') :: W ∧ (∀ p ∈ R, p ∈ W) ∧ (∀ p ∈ W, p.1 ≠ d) ∧ (∀ p ∈ W, p.1 ≠ pa) ∧ (∀ p ∈ W, p.1 ≠ qa) ∧
    o.IsDictOf (PySem.strKind prog w) kvs ∧ PenOk qa o1' o2' ∧ KvOk prog w W kvs i) s₁ e it oe oi i { s₁ with heap := h', toks := tk } := by
  refine enum_end (news' := (d, o9) :: (pa, p1) :: (qa, p2) :: (Z ++ W2)) F N ?_ ?_ hm ⟨o9, _, Z ++ W2, p1, p2, rfl, fun p hp => List.mem_append_right _ (hW p (hR p hp)), z3, z4, z5, hd9, hP, hkv.add (fun p hp => List.mem_append_right _ (hW p hp)) hvn htm S htok⟩
  · intro p hp
    simp only [List.mem_cons, List.mem_append] at hp ⊢
    rcases hp with hp | hp | hp | hp | hp | hp | hp <;> simp only [hp, true_or, or_true]
  · intro p hp
    rcases List.mem_cons.mp hp with rfl | hp
    · exact ⟨Ne.symm a1, Ne.symm a2⟩
    rcases List.mem_cons.mp hp with rfl | hp
    · exact ⟨Ne.symm a3, Ne.symm a4⟩
    rcases List.mem_cons.mp hp with rfl | hp
    · exact ⟨Ne.symm a5, Ne.symm a6⟩
    · exact ⟨z1 p hp, z2 p hp⟩
theorem lay_end {h₀ h' : Heap} {L : Addr} {d pa qa : Nat} {o o1 o2 : Obj} {q1 q2 q3 q4 : Addr × Obj} {W : List (Addr × Obj)} (N : News h₀ L h' (q1 :: q2 :: q3 :: q4 :: (d, o) :: (pa, o1) :: (qa, o2) :: W)) : News h₀ L h' ((pa, o1) :: (qa, o2) :: q1 :: q2 :: q3 :: q4 :: (d, o) :: W) :=
  news_drop N fun p hp => by
    simp only [List.mem_cons] at hp ⊢
    rcases hp with hp | hp | hp | hp | hp | hp | hp | hp <;> simp only [hp, true_or, or_true]
theorem layout_c {prog : Program} {w : World} {p : Program} {loose : List Str} {mean : ExcName → Option Value} {mg mb : Str → Option Value}
   {pa qa : Nat} {o1 o2 : Obj} {R : List (Addr × Obj)} (hP : PenOk qa o1 o2) (hpq : pa ≠ qa) (h1 : ∀ r ∈ R, r.1 ≠ pa) (h2 : ∀ r ∈ R, r.1 ≠ qa) :
   Con prog w (hd.heap_1 w.params) p loose mean mg mb 4 171 [.ref pa] ((pa, o1) :: (qa, o2) :: R)
     fun r news' => ∃ y kvs W o1' o2', r = .ref y ∧ news' = (pa, o1') :: (qa, o2') :: W ∧ (∀ p ∈ R, p ∈ W) ∧ (∀ p ∈ W, p.1 ≠ pa) ∧ (∀ p ∈ W, p.1 ≠ qa) ∧ PenOk qa o1' o2' ∧ LayIn prog w W (.ref y) kvs := by
  intro dp un gd cn cs a ccd cl outer A₀ base h₀ L m s Q E B F X N T hk hdp hun hret
  refine wpAny_call ?_
  k_dflt ktn_open
  k_steps
  (rename Fr _ _ _ _ => F1); (rename News _ _ _ _ => N1)
  rename_i d _ od lod hod fs hi fi ld _
  clear fs hi fi
  have hWd : ∀ p ∈ R, p.1 ≠ d := lt_ne (tb_ltOf ld.2.2)
  have hdp' : @Ne Nat d pa := Nat.ne_of_gt ld.1
  have hdq' : @Ne Nat d qa := Nat.ne_of_gt ld.2.1
  refine enumLoop [Str.ofString "spot", Str.ofString "tag", Str.ofString "languages", Str.ofString "language"] (fun i _ nw => ∃ o kvs W o1' o2', nw = (d, o) :: (pa, o1') :: (qa, o2') :: W ∧ (∀ p ∈ R, p ∈ W) ∧ (∀ p ∈ W, p.1 ≠ d) ∧ (∀ p ∈ W, p.1 ≠ pa) ∧ (∀ p ∈ W, p.1 ≠ qa) ∧
    o.IsDictOf (PySem.strKind prog w) kvs ∧ PenOk qa o1' o2' ∧ KvOk prog w W kvs i) rfl (top_tuple (K := hd.heap_1 w.params) (t := 145) (by assumption) (by k_is)) F1 N1 ?_ ?_ ?_
  · exact ⟨od, [], R, o1, o2, rfl, fun _ hp => hp, hWd, h1, h2, hod, hP, ⟨fun _ _ h => (nomatch h), fun _ h => (nomatch h), Nat.le_refl _⟩⟩
  · intro e it oe oi i x t T u news₁ h tk hx hI hoff hei hT F2 N2
    obtain ⟨o, kvs, W, o1', o2', rfl, hsub, hWd', hWp, hWq, hdo, hP', hkv⟩ := hI
    obtain ⟨tg, tk', rfl, htg⟩ := strsAre_get (ss := knownT) (.cons _ _ (.cons _ _ (.cons _ _ (.cons _ _ (.cons _ _ (.cons _ _ (.cons _ _ .nil))))))) (by rw [Array.getElem?_toList]; exact hx)
    obtain ⟨hi7, htok, htn, htm⟩ := known_at htg
    have hvn : valueAt kvs tg = none := by
      cases hv : valueAt kvs tg with
      | none => rfl
      | some u => exact absurd (hkv.key tg (by rw [hv]; rfl)) htn
    clear F1 N1 hod hP hWd h1 h2
    have a1 : @Ne Nat e d := Ne.symm (hoff _ (.head _)).1
    have a2 : @Ne Nat it d := Ne.symm (hoff _ (.head _)).2
    have a3 : @Ne Nat e pa := Ne.symm (hoff _ (.tail _ (.head _))).1
    have a4 : @Ne Nat it pa := Ne.symm (hoff _ (.tail _ (.head _))).2
    have a5 : @Ne Nat e qa := Ne.symm (hoff _ (.tail _ (.tail _ (.head _)))).1
    have a6 : @Ne Nat it qa := Ne.symm (hoff _ (.tail _ (.tail _ (.head _)))).2
    have hWe : ∀ p ∈ W, p.1 ≠ e := fun p hp => (hoff p (.tail _ (.tail _ (.tail _ hp)))).1
    have hWi : ∀ p ∈ W, p.1 ≠ it := fun p hp => (hoff p (.tail _ (.tail _ (.tail _ hp)))).2
    k_steps
    · (rename Fr _ _ _ _ => F3); (rename News _ _ _ _ => N3)
      rename_i dl _ ol lol hol fs hi fi ldl _ lit _ llit dd td p1 p2 _ _ hd0 hd1 hPn DD _ kk hkk lDD
      clear fs hi fi hP'
      have b1 : ∀ p ∈ W, p.1 ≠ dl := lt_ne (tb_ltOf ldl.2.2.2.2.2)
      have N4 := news_drop (l' := (dl, ol) :: (e, oe) :: (it, oi) :: (d, o) :: (pa, p1) :: (qa, p2) :: (DD, listOf (List.toArray ([Value.str (Str.ofString "URD ") (tk + 1), Value.str (Str.ofString "ARA ") (tk + 1 + 1)].drop kk)) 0) :: W) N3 (fun p hp => by
        simp only [List.mem_cons] at hp ⊢
        rcases hp with hp | hp | hp | hp | hp | hp | hp | hp <;> simp only [hp, true_or, or_true])
      refine loopP (fun vs nw => ∃ W2 ol' lkv rest, nw = (dl, ol') :: (e, oe) :: (it, oi) :: (d, o) :: (pa, p1) :: (qa, p2) :: W2 ∧ (∀ p ∈ W, p ∈ W2) ∧ (∀ p ∈ W2, p.1 ≠ dl) ∧ (∀ p ∈ W2, p.1 ≠ e) ∧ (∀ p ∈ W2, p.1 ≠ it) ∧ (∀ p ∈ W2, p.1 ≠ d) ∧ (∀ p ∈ W2, p.1 ≠ pa) ∧ (∀ p ∈ W2, p.1 ≠ qa) ∧
        ol'.IsDictOf (PySem.strKind prog w) lkv ∧ StrsAre vs rest ∧ (∀ p ∈ lkv, LsIn W2 p.2 (i : Int) 1) ∧ lkv.map (·.1) ++ rest = [Str.ofString "URD ", Str.ofString "ARA "].drop kk) rfl F3 N4 (by k_mem) rfl rfl ?_ ?_ ?_
      · refine ⟨_, ol, [], _, rfl, fun p hp => .tail _ hp, ?_, ?_, ?_, ?_, ?_, ?_, hol, strs_drop (.cons _ _ (.cons _ _ .nil)) kk, (fun _ h => nomatch h), rfl⟩ <;> (intro p hp; rcases List.mem_cons.mp hp with rfl | hp; k_ne)
        · exact b1 p hp
        · exact hWe p hp
        · exact hWi p hp
        · exact hWd' p hp
        · exact hWp p hp
        · exact hWq p hp
      · intro I v r news₁ it2 h tk hI hlp hit hoff2 F5 N5
        obtain ⟨W2, ol', lkv, rest, rfl, hsub2, c1, c2, c3, c4, c5, c6, hdl, hvs, hls, hlk⟩ := hI
        clear F3 N3 N4
        have g1 : @Ne Nat I dl := Ne.symm (hoff2 _ (.head _))
        have hoffW : ∀ p ∈ W2, p.1 ≠ I := fun p hp => hoff2 p (.tail _ (.tail _ (.tail _ (.tail _ (.tail _ (.tail _ hp))))))
        have hll : lkv.length ≤ 2 := by
          have := congrArg List.length hlk
          simp only [List.length_append, List.length_map, List.length_drop, List.length_cons, List.length_nil] at this
          omega
        cases hvs with
        | cons lg tl hvs' =>
          have hnw := lang_new hlk
          have b3 : dl ≠ DD := Nat.ne_of_lt lDD.2.1
          k_steps
          rename_i h9 o9 F9 N9 hd9
          rw [stored_absent hnw] at hd9
          refine lang_end F9 N9 (fun p hp => hoff2 p hp) hlp (Ne.symm b3) (by k_ne) (by k_ne) (by k_ne) (by k_ne) ⟨_, o9, _, _, rfl, fun p hp => .tail _ (.tail _ (.tail _ (.tail _ (hsub2 p hp)))), ?_, ?_, ?_, ?_, ?_, ?_, hd9, hvs', ?_, ?_⟩
          · exact off_add (by k_ne) (off_add (by k_ne) (off_add (by k_ne) (off_add (by k_ne) c1)))
          · exact off_add (by k_ne) (off_add (by k_ne) (off_add (by k_ne) (off_add (by k_ne) c2)))
          · exact off_add (by k_ne) (off_add (by k_ne) (off_add (by k_ne) (off_add (by k_ne) c3)))
          · exact off_add (by k_ne) (off_add (by k_ne) (off_add (by k_ne) (off_add (by k_ne) c4)))
          · exact off_add (by k_ne) (off_add (by k_ne) (off_add (by k_ne) (off_add (by k_ne) c5)))
          · exact off_add (by k_ne) (off_add (by k_ne) (off_add (by k_ne) (off_add (by k_ne) c6)))
          · intro p hp
            rcases List.mem_append.mp hp with hp | hp
            · exact (hls p hp).mono fun q hq => .tail _ (.tail _ (.tail _ (.tail _ hq)))
            · rw [List.mem_singleton.mp hp]
              exact .mk (.tail _ (.head _)) (.tail _ (.tail _ (.head _))) (.head _)
          · rw [List.map_append, List.append_assoc]; exact hlk
      · intro u5 news₁ h tk hI F5 N5
        obtain ⟨W2, ol', lkv, rest, rfl, hsub2, c1, c2, c3, c4, c5, c6, hdl, hvs, hls, hlk⟩ := hI
        clear F3 N3 N4
        have hkl := hkv.len
        cases hvs
        rw [List.append_nil] at hlk
        have hLg := lg_of hkk hlk hls
        k_steps
        · rename_i h9 o9 F9 N9 hd9
          rw [stored_absent hvn] at hd9
          refine tag_endZ (Z := [_, _, _, _, _, _, _]) (D := ⟨tg, i, true, kk⟩) F9 N9 ?_ ?_ ?_ ?_ ?_ ?_ a1 a2 a3 a4 a5 a6 hsub hsub2 hd9 (by assumption) hkv hvn htm (.mk (.head _) (.tail _ (.head _)) (.some (.mk (.tail _ (.tail _ (.tail _ (.head _)))) (.tail _ (.tail _ (.tail _ (.tail _ (.head _))))) (.tail _ (.tail _ (.head _))))) (.tail _ (.tail _ (.tail _ (.tail _ (.tail _ (.tail _ (.head _))))))) hdl lol (hLg.mono fun q hq => (.tail _ (.tail _ (.tail _ (.tail _ (.tail _ (.tail _ (.tail _ hq))))))))) htok
          · intro y hy
            have e1 := contains_ne hy (z := Str.ofString "spot") rfl
            have e2 := contains_ne hy (z := Str.ofString "tag") rfl
            have e3 := contains_ne hy (z := Str.ofString "languages") rfl
            have e4 := contains_ne hy (z := Str.ofString "language") rfl
            simp only [if_neg e1, if_neg e2, if_neg e3, if_neg e4, hy, Bool.false_eq_true, if_false]
          · exact off_add (by k_ne) (off_add (by k_ne) (off_add (by k_ne) (off_add (by k_ne) (off_add (by k_ne) (off_add (by k_ne) (off_add (by k_ne) c2))))))
          · exact off_add (by k_ne) (off_add (by k_ne) (off_add (by k_ne) (off_add (by k_ne) (off_add (by k_ne) (off_add (by k_ne) (off_add (by k_ne) c3))))))
          · exact off_add (by k_ne) (off_add (by k_ne) (off_add (by k_ne) (off_add (by k_ne) (off_add (by k_ne) (off_add (by k_ne) (off_add (by k_ne) c4))))))
          · exact off_add (by k_ne) (off_add (by k_ne) (off_add (by k_ne) (off_add (by k_ne) (off_add (by k_ne) (off_add (by k_ne) (off_add (by k_ne) c5))))))
          · exact off_add (by k_ne) (off_add (by k_ne) (off_add (by k_ne) (off_add (by k_ne) (off_add (by k_ne) (off_add (by k_ne) (off_add (by k_ne) c6))))))
        · rename_i h9 o9 F9 N9 hd9
          rw [stored_absent hvn] at hd9
          refine tag_endZ (Z := [_, _, _]) (D := ⟨tg, i, false, kk⟩) F9 N9 ?_ ?_ ?_ ?_ ?_ ?_ a1 a2 a3 a4 a5 a6 hsub hsub2 hd9 (by assumption) hkv hvn htm (.mk (.head _) (.tail _ (.head _)) .none (.tail _ (.tail _ (.head _))) hdl lol (hLg.mono fun q hq => (.tail _ (.tail _ (.tail _ hq))))) htok
          · intro y hy
            have e1 := contains_ne hy (z := Str.ofString "spot") rfl
            have e2 := contains_ne hy (z := Str.ofString "tag") rfl
            have e3 := contains_ne hy (z := Str.ofString "languages") rfl
            have e4 := contains_ne hy (z := Str.ofString "language") rfl
            simp only [if_neg e1, if_neg e2, if_neg e3, if_neg e4, hy, Bool.false_eq_true, if_false]
          · exact off_add (by k_ne) (off_add (by k_ne) (off_add (by k_ne) c2))
          · exact off_add (by k_ne) (off_add (by k_ne) (off_add (by k_ne) c3))
          · exact off_add (by k_ne) (off_add (by k_ne) (off_add (by k_ne) c4))
          · exact off_add (by k_ne) (off_add (by k_ne) (off_add (by k_ne) c5))
          · exact off_add (by k_ne) (off_add (by k_ne) (off_add (by k_ne) c6))
    · rename_i dd _ p1 p2 _ _ _ _ hPn F9 N9 hlt
      refine enum_end (news' := (d, o) :: (pa, p1) :: (qa, p2) :: W) F9 N9 (fun _ hp => hp) ?_ ?_ ⟨o, kvs, W, p1, p2, rfl, hsub, hWd', hWp, hWq, hdo, hPn, ⟨hkv.sc, fun k hk => take_sub (hkv.key k hk), Nat.le_succ_of_le hkv.len⟩⟩
      · intro p hp
        rcases List.mem_cons.mp hp with rfl | hp
        · exact ⟨Ne.symm a1, Ne.symm a2⟩
        rcases List.mem_cons.mp hp with rfl | hp
        · exact ⟨Ne.symm a3, Ne.symm a4⟩
        rcases List.mem_cons.mp hp with rfl | hp
        · exact ⟨Ne.symm a5, Ne.symm a6⟩
        · exact ⟨hWe p hp, hWi p hp⟩
      · intro y hy
        have e1 := contains_ne hy (z := Str.ofString "spot") rfl
        have e2 := contains_ne hy (z := Str.ofString "tag") rfl
        simp only [if_neg e1, if_neg e2, hy, Bool.false_eq_true, if_false]
  · intro u news₁ h tk hI F2 N2
    obtain ⟨o, kvs, W, o1', o2', rfl, hsub, hWd', hWp, hWq, hdo, hP', hkv⟩ := hI
    clear F1 N1 hod hP hWd h1 h2
    k_steps
    (rename Fr _ _ _ _ => F9); (rename News _ _ _ _ => N9)
    have hk7 : ∀ k, (valueAt kvs k).isSome = true → k ∈ knownT := fun k hk => List.mem_of_mem_take (hkv.key k hk)
    have hno : ∀ k, knownT.contains k = false → valueAt kvs k = none := fun k hk => by
      cases hv : valueAt kvs k with
      | none => rfl
      | some u => exact absurd (List.contains_iff_mem.mpr (hk7 k (by rw [hv]; rfl))) (by rw [hk]; decide)
    refine hret _ _ _ _ F9 (lay_end N9) ⟨_, kvs, _, _, _, rfl, rfl, fun p hp => .tail _ (.tail _ (.tail _ (.tail _ (.tail _ (hsub p hp))))), ?_, ?_, hP', ⟨LyIn.mk (.head _) (.tail _ (.head _)) (.tail _ (.tail _ (.tail _ (.tail _ (.head _))))) hdo lod, fun k u e => ?_, Nat.le_trans hkv.len (by decide), hno _ (by decide +kernel), hno _ (by decide +kernel), fun k hk => known_ok (hk7 k hk)⟩⟩
    · exact off_add (by k_ne) (off_add (by k_ne) (off_add (by k_ne) (off_add (by k_ne) (off_add (by k_ne) hWp))))
    · exact off_add (by k_ne) (off_add (by k_ne) (off_add (by k_ne) (off_add (by k_ne) (off_add (by k_ne) hWq))))
    · obtain ⟨D, a, b⟩ := hkv.sc k u e
      exact ⟨D, a.mono fun p hp => .tail _ (.tail _ (.tail _ (.tail _ (.tail _ hp)))), b⟩

/-- tuples of three: two strs and some value -/
inductive Trips (W : List (Addr × Obj)) : List Value → List (Str × Str) → Prop
  | nil : Trips W [] []
  | cons {t : Addr} {a b : Str} {ta tb : Tok} {x : Value} {vs : List Value} {ps : List (Str × Str)} : (t, ({ cls := .type "tuple", data := .seq (List.toArray [.str a ta, .str b tb, x]) } : Obj)) ∈ W → Trips W vs ps → Trips W (.ref t :: vs) ((a, b) :: ps)
theorem Trips.mono {W W' : List (Addr × Obj)} {vs : List Value} {ps : List (Str × Str)} (h : Trips W vs ps) (hs : ∀ p ∈ W, p ∈ W') : Trips W' vs ps := by
  induction h with
  | nil => exact .nil
  | cons m _ ih => exact .cons (hs _ m) ih
theorem Trips.snoc {W : List (Addr × Obj)} {vs : List Value} {ps : List (Str × Str)} {t : Addr} {a b : Str} {ta tb : Tok} {x : Value} (h : Trips W vs ps) (m : (t, ({ cls := .type "tuple", data := .seq (List.toArray [.str a ta, .str b tb, x]) } : Obj)) ∈ W) : Trips W (vs ++ [.ref t]) (ps ++ [(a, b)]) := by
  induction h with
  | nil => exact .cons m .nil
  | cons m' _ ih => exact .cons m' ih
/-- all that a script has is in the list -/
def Cov (ps : List (Str × Str)) (k : Str) (D : SD) : Prop := (D.df = true → (k, Str.ofString "dflt") ∈ ps) ∧ ∀ lg ∈ langs D.k, (k, lg) ∈ ps
theorem Cov.mono {ps qs : List (Str × Str)} {k : Str} {D : SD} (h : Cov ps k D) (hs : ∀ p ∈ ps, p ∈ qs) : Cov qs k D := ⟨fun e => hs _ (h.1 e), fun lg hl => hs _ (h.2 lg hl)⟩

theorem inner_end {h₀ h' : Heap} {L : Addr} {Inv : List Value → List (Addr × Obj) → Prop} {I I2 fl : Nat} {lp q : Addr × Obj} {it it2 o o' : Obj} {x : Str} {r : List Value} {v : Value} {m₀ : Str → Option Value} {s₁ : Shared} {tk : Nat} {W2 : List (Addr × Obj)}
    (F : Fr h₀ L h' (fun y => if y = x then some v else m₀ y)) (N : News h₀ L h' (q :: (I2, it2) :: (I, it) :: (fl, o) :: W2)) (hoff : ∀ p ∈ (I, it) :: (fl, o') :: W2, p.1 ≠ I2) (hq : @Ne Nat q.1 I2) (hlp : lp ∈ W2) (hI : Inv r ((I, it) :: (fl, o) :: q :: W2)) :
    LoopEnd h₀ L lp (fun (u : Option Value) y => if y = x then u else m₀ y) (fun vs _ nw => Inv vs nw) s₁ I2 it2 r { s₁ with heap := h', toks := tk } := by
  refine loopP_end (news' := (I, it) :: (fl, o) :: q :: W2) F N (fun p hp => ?_) (off_add (hoff _ (.head _)) (off_add (q := (fl, o)) (hoff (fl, o') (.tail _ (.head _))) (off_add hq fun p hp => hoff p (.tail _ (.tail _ hp))))) (.tail _ (.tail _ (.tail _ hlp))) hI
  simp only [List.mem_cons] at hp ⊢
  rcases hp with hp | hp | hp | hp | hp <;> simp only [hp, true_or, or_true]
theorem drop4 {h₀ h : Heap} {L : Addr} {a b c d : Addr × Obj} {W : List (Addr × Obj)} (N : News h₀ L h (a :: b :: c :: d :: W)) : News h₀ L h (c :: d :: a :: b :: W) :=
  news_drop N fun p hp => by
    simp only [List.mem_cons] at hp ⊢
    rcases hp with hp | hp | hp | hp | hp <;> simp only [hp, true_or, or_true]
abbrev OkP (ps : List (Str × Str)) : Prop := ∀ q ∈ ps, PyData.strOk q.1 = true ∧ PyData.strOk q.2 = true
theorem OkP.snoc {ps : List (Str × Str)} {a b : Str} (h : OkP ps) (ha : PyData.strOk a = true) (hb : PyData.strOk b = true) : OkP (ps ++ [(a, b)]) := fun q hq => by
  rcases List.mem_append.mp hq with hq | hq
  · exact h q hq
  · rw [List.mem_singleton.mp hq]; exact ⟨ha, hb⟩
theorem langs_ok {k : Nat} {lg : Str} (h : lg ∈ langs k) : PyData.strOk lg = true := by
  have all : [Str.ofString "URD ", Str.ofString "ARA "].all (fun k => PyData.strOk k) = true := by decide +kernel
  exact List.all_eq_true.mp all lg (List.mem_of_mem_drop h)

theorem all_c {prog : Program} {w : World} {p : Program} {loose : List Str} {mean : ExcName → Option Value} {mg mb : Str → Option Value} {R : List (Addr × Obj)} {v : Value} {kvs : List (Str × Value)} {f : Str → SD}
   (H : LyIn prog w R v kvs) (hf : ∀ k u, valueAt kvs k = some u → ScIn prog w R u (f k)) (hz : kvs.length ≤ 10) (hkok : ∀ k, (valueAt kvs k).isSome = true → PyData.strOk k = true) :
   Con prog w (hd.heap_1 w.params) p loose mean mg mb 1 64 [v] R fun r news' => ∃ fl fvs n ps W, r = .ref fl ∧ news' = (fl, listOf (List.toArray fvs) n) :: W ∧ (∀ q ∈ R, q ∈ W) ∧ (∀ q ∈ W, q.1 ≠ fl) ∧ Trips W fvs ps ∧ fvs.length ≤ 30 ∧ OkP ps ∧ ∀ k, (valueAt kvs k).isSome = true → Cov ps k (f k) := by
  intro dp un gd cn cs a ccd cl outer A₀ base h₀ L m s Q E B F X N T hk hdp hun hret
  cases H with
  | mk m1 m2 m3 hol lo =>
    refine wpAny_call ?_
    k_dflt ktn_open
    k_steps
    (rename Fr _ _ _ _ => F1); (rename News _ _ _ _ => N1)
    rename_i fl _ lf _ B _ _ vs ss nB hS hP hO lB
    have hRf : ∀ p ∈ R, p.1 ≠ fl := lt_ne lf
    have hlen0 : vs.length ≤ 10 := by rw [strs_len hS, hP.length_eq, List.length_map]; exact hz
    have N2 := news_drop (l' := (fl, listOf (List.toArray []) 0) :: (B, listOf (List.toArray vs) nB) :: R) N1 (fun p hp => by
      simp only [List.mem_cons] at hp ⊢
      rcases hp with hp | hp | hp <;> simp only [hp, true_or, or_true])
    refine loopS [Str.ofString "tag", Str.ofString "script", Str.ofString "language"] (fun r _ nw => ∃ fvs n W ps done rest, nw = (fl, listOf (List.toArray fvs) n) :: W ∧ (∀ p ∈ R, p ∈ W) ∧ (B, listOf (List.toArray vs) nB) ∈ W ∧ (∀ p ∈ W, p.1 ≠ fl) ∧
      Trips W fvs ps ∧ StrsAre r rest ∧ done ++ rest = ss ∧ fvs.length + 3 * r.length ≤ 30 ∧ OkP ps ∧ ∀ k ∈ done, Cov ps k (f k)) rfl F1 N2 (by k_mem) rfl rfl ?_ ?_ ?_
    · refine ⟨[], 0, _, [], [], ss, rfl, fun p hp => .tail _ hp, .head _, ?_, .nil, hS, rfl, by simp only [List.length_nil]; omega, (fun _ h => nomatch h), fun _ h => nomatch h⟩
      exact off_add (by k_ne) hRf
    · intro I v r u news₁ it h tk hI hlp hit hoff F3 N3
      obtain ⟨fvs, n, W, ps, done, rest, rfl, hsub, hBW, hWf, hT, hvs, hss, hl, hokp, hcov⟩ := hI
      clear F1 N1 N2
      have hIf : @Ne Nat I fl := Ne.symm (hoff _ (.head _))
      have hWI : ∀ p ∈ W, p.1 ≠ I := fun p hp => hoff p (.tail _ hp)
      replace m1 := hsub _ m1
      replace m2 := hsub _ m2
      replace m3 := hsub _ m3
      cases hvs with
      | cons tg tk' hvs' =>
        rename_i rest'
        rw [List.length_cons] at hl
        obtain ⟨u, hv⟩ := perm_val (hP.mem_iff.mp (show tg ∈ ss by rw [← hss]; simp))
        have hSc := (hf tg u hv).mono hsub
        have htok := hkok tg (by rw [hv]; rfl)
        obtain ⟨D, hD⟩ : ∃ D, D = f tg := ⟨_, rfl⟩
        rw [← hD] at hSc
        obtain ⟨dt, sp, df, kk⟩ := D
        cases hSc with
        | mk c1 c2 hdf c3 hol' lo' hlg =>
          dsimp only at c2 hdf hlg
          have hkeys := hlg.keys
          have hlen := hlg.len
          cases hdf with
          | none =>
            k_steps
            (rename Fr _ _ _ _ => F4); (rename News _ _ _ _ => N4)
            rename_i B2 _ _ lvs lss nB2 lS lP lO lB2
            have hl2 : lvs.length ≤ 2 := by rw [strs_len lS, lP.length_eq, List.length_map]; exact hlen
            have N5 := news_drop (l' := (I, it) :: (fl, listOf (List.toArray fvs) n) :: (B2, listOf (List.toArray lvs) nB2) :: W) N4 (fun p hp => by
              simp only [List.mem_cons] at hp ⊢
              rcases hp with hp | hp | hp | hp <;> simp only [hp, true_or, or_true])
            refine loopP (fun r2 nw => ∃ gvs n2 W2 qs ldone lrest, nw = (I, it) :: (fl, listOf (List.toArray gvs) n2) :: W2 ∧ (∀ p ∈ W, p ∈ W2) ∧ (B2, listOf (List.toArray lvs) nB2) ∈ W2 ∧ (∀ p ∈ W2, p.1 ≠ fl) ∧ (∀ p ∈ W2, p.1 ≠ I) ∧
              Trips W2 gvs qs ∧ StrsAre r2 lrest ∧ ldone ++ lrest = lss ∧ gvs.length + r2.length ≤ fvs.length + 3 ∧ OkP qs ∧ (∀ q ∈ ps, q ∈ qs) ∧ ∀ lg ∈ ldone, (tg, lg) ∈ qs) rfl F4 N5 (by k_mem) rfl rfl ?_ ?_ ?_
            · refine ⟨_, _, _, ps, [], lss, rfl, fun p hp => .tail _ hp, .head _, off_add (by k_ne) hWf, off_add (by k_ne) hWI, hT.mono fun p hp => .tail _ hp, lS, rfl, by omega, hokp, fun _ h => h, fun _ h => nomatch h⟩
            · intro I2 v2 r2 news₂ it2 h2 tk2 hI2 hlp2 hit2 hoff2 F6 N6
              obtain ⟨gvs, n2, W2, qs, ldone, lrest, rfl, hsub2, hB2W, h2f, h2I, hT2, hvs2, hls2, hlen2, hokq, hps2, hcov2⟩ := hI2
              clear F3 N3 F4 N4 N5
              replace c1 := hsub2 _ c1
              replace c2 := hsub2 _ c2
              replace c3 := hsub2 _ c3
              have g1 : @Ne Nat I2 fl := Ne.symm (hoff2 _ (.tail _ (.head _)))
              have g2 : @Ne Nat I2 I := Ne.symm (hoff2 _ (.head _))
              have g3 : ∀ p ∈ W2, p.1 ≠ I2 := fun p hp => hoff2 p (.tail _ (.tail _ hp))
              cases hvs2 with
              | cons lg tl hvs2' =>
                rename_i lrest'
                rw [List.length_cons] at hlen2
                obtain ⟨lv, hlv⟩ := perm_val (lP.mem_iff.mp (show lg ∈ lss by rw [← hls2]; simp))
                k_steps
                (rename Fr _ _ _ _ => F7); (rename News _ _ _ _ => N7)
                refine inner_end F7 N7 hoff2 (by k_ne) hB2W ⟨_, _, _, qs ++ [(tg, lg)], ldone ++ [lg], _, rfl, fun p hp => .tail _ (hsub2 p hp), .tail _ hB2W, off_add (by k_ne) h2f, off_add (by k_ne) h2I, (hT2.mono fun p hp => .tail _ hp).snoc (.head _), hvs2', by rw [← hls2, List.append_assoc]; rfl, by rw [List.length_append, List.length_singleton]; omega, hokq.snoc htok (langs_ok (by rw [← hkeys]; exact lP.mem_iff.mp (show lg ∈ lss by rw [← hls2]; simp))), fun q hq => List.mem_append_left _ (hps2 q hq), fun l hl => ?_⟩
                rcases List.mem_append.mp hl with hl | hl
                · exact List.mem_append_left _ (hcov2 l hl)
                · rw [List.mem_singleton.mp hl]; exact List.mem_append_right _ (.head _)
            · intro u2 news₂ h2 tk2 hI2 F6 N6
              obtain ⟨gvs, n2, W2, qs, ldone, lrest, rfl, hsub2, hB2W, h2f, h2I, hT2, hvs2, hls2, hlen2, hokq, hps2, hcov2⟩ := hI2
              clear F3 N3 F4 N4 N5
              cases hvs2
              rw [List.append_nil] at hls2
              rw [List.length_nil] at hlen2
              k_steps
              refine loopS_end (news' := (fl, listOf (List.toArray gvs) n2) :: W2) (by k_asm) (by k_asm) (fun _ hp => hp) (off_add (Ne.symm hIf) h2I) (.tail _ (hsub2 _ hBW)) ?_ ⟨gvs, n2, W2, qs, done ++ [tg], rest', rfl, fun p hp => hsub2 p (hsub p hp), hsub2 _ hBW, h2f, hT2, hvs', by rw [← hss, List.append_assoc]; rfl, by omega, hokq, fun k hk => ?_⟩
              · intro y hy
                have e1 := contains_ne hy (z := Str.ofString "tag") rfl
                have e2 := contains_ne hy (z := Str.ofString "script") rfl
                have e3 := contains_ne hy (z := Str.ofString "language") rfl
                simp only [if_neg e1, if_neg e2, if_neg e3, hy, Bool.false_eq_true, if_false]
              · rcases List.mem_append.mp hk with hk | hk
                · exact (hcov k hk).mono fun q hq => hps2 q hq
                · rw [List.mem_singleton.mp hk, ← hD]
                  refine ⟨fun e => (nomatch e), fun l hl => hcov2 l ?_⟩
                  rw [hls2]
                  refine lP.mem_iff.mpr ?_
                  rw [hkeys]; exact hl
          | some hls =>
            cases hls
            k_steps
            (rename Fr _ _ _ _ => F4); (rename News _ _ _ _ => N4)
            rename_i B2 _ _ lvs lss nB2 lS lP lO lB2
            have hl2 : lvs.length ≤ 2 := by rw [strs_len lS, lP.length_eq, List.length_map]; exact hlen
            have N5 := drop4 N4
            refine loopP (fun r2 nw => ∃ gvs n2 W2 qs ldone lrest, nw = (I, it) :: (fl, listOf (List.toArray gvs) n2) :: W2 ∧ (∀ p ∈ W, p ∈ W2) ∧ (B2, listOf (List.toArray lvs) nB2) ∈ W2 ∧ (∀ p ∈ W2, p.1 ≠ fl) ∧ (∀ p ∈ W2, p.1 ≠ I) ∧
              Trips W2 gvs qs ∧ StrsAre r2 lrest ∧ ldone ++ lrest = lss ∧ gvs.length + r2.length ≤ fvs.length + 3 ∧ OkP qs ∧ (∀ q ∈ (ps ++ [(tg, Str.ofString "dflt")]), q ∈ qs) ∧ ∀ lg ∈ ldone, (tg, lg) ∈ qs) rfl F4 N5 (by k_mem) rfl rfl ?_ ?_ ?_
            · refine ⟨_, _, _, (ps ++ [(tg, Str.ofString "dflt")]), [], lss, rfl, fun p hp => .tail _ (.tail _ hp), .head _, off_add (by k_ne) (off_add (by k_ne) hWf), off_add (by k_ne) (off_add (by k_ne) hWI), (hT.mono fun p hp => .tail _ (.tail _ hp)).snoc (.tail _ (.head _)), lS, rfl, by rw [List.length_append, List.length_singleton]; omega, hokp.snoc htok (by decide +kernel), fun _ h => h, fun _ h => nomatch h⟩
            · intro I2 v2 r2 news₂ it2 h2 tk2 hI2 hlp2 hit2 hoff2 F6 N6
              obtain ⟨gvs, n2, W2, qs, ldone, lrest, rfl, hsub2, hB2W, h2f, h2I, hT2, hvs2, hls2, hlen2, hokq, hps2, hcov2⟩ := hI2
              clear F3 N3 F4 N4 N5
              replace c1 := hsub2 _ c1
              replace c2 := hsub2 _ c2
              replace c3 := hsub2 _ c3
              have g1 : @Ne Nat I2 fl := Ne.symm (hoff2 _ (.tail _ (.head _)))
              have g2 : @Ne Nat I2 I := Ne.symm (hoff2 _ (.head _))
              have g3 : ∀ p ∈ W2, p.1 ≠ I2 := fun p hp => hoff2 p (.tail _ (.tail _ hp))
              cases hvs2 with
              | cons lg tl hvs2' =>
                rename_i lrest'
                rw [List.length_cons] at hlen2
                obtain ⟨lv, hlv⟩ := perm_val (lP.mem_iff.mp (show lg ∈ lss by rw [← hls2]; simp))
                k_steps
                (rename Fr _ _ _ _ => F7); (rename News _ _ _ _ => N7)
                refine inner_end F7 N7 hoff2 (by k_ne) hB2W ⟨_, _, _, qs ++ [(tg, lg)], ldone ++ [lg], _, rfl, fun p hp => .tail _ (hsub2 p hp), .tail _ hB2W, off_add (by k_ne) h2f, off_add (by k_ne) h2I, (hT2.mono fun p hp => .tail _ hp).snoc (.head _), hvs2', by rw [← hls2, List.append_assoc]; rfl, by rw [List.length_append, List.length_singleton]; omega, hokq.snoc htok (langs_ok (by rw [← hkeys]; exact lP.mem_iff.mp (show lg ∈ lss by rw [← hls2]; simp))), fun q hq => List.mem_append_left _ (hps2 q hq), fun l hl => ?_⟩
                rcases List.mem_append.mp hl with hl | hl
                · exact List.mem_append_left _ (hcov2 l hl)
                · rw [List.mem_singleton.mp hl]; exact List.mem_append_right _ (.head _)
            · intro u2 news₂ h2 tk2 hI2 F6 N6
              obtain ⟨gvs, n2, W2, qs, ldone, lrest, rfl, hsub2, hB2W, h2f, h2I, hT2, hvs2, hls2, hlen2, hokq, hps2, hcov2⟩ := hI2
              clear F3 N3 F4 N4 N5
              cases hvs2
              rw [List.append_nil] at hls2
              rw [List.length_nil] at hlen2
              k_steps
              refine loopS_end (news' := (fl, listOf (List.toArray gvs) n2) :: W2) (by k_asm) (by k_asm) (fun _ hp => hp) (off_add (Ne.symm hIf) h2I) (.tail _ (hsub2 _ hBW)) ?_ ⟨gvs, n2, W2, qs, done ++ [tg], rest', rfl, fun p hp => hsub2 p (hsub p hp), hsub2 _ hBW, h2f, hT2, hvs', by rw [← hss, List.append_assoc]; rfl, by omega, hokq, fun k hk => ?_⟩
              · intro y hy
                have e1 := contains_ne hy (z := Str.ofString "tag") rfl
                have e2 := contains_ne hy (z := Str.ofString "script") rfl
                have e3 := contains_ne hy (z := Str.ofString "language") rfl
                simp only [if_neg e1, if_neg e2, if_neg e3, hy, Bool.false_eq_true, if_false]
              · rcases List.mem_append.mp hk with hk | hk
                · exact (hcov k hk).mono fun q hq => hps2 q (List.mem_append_left _ hq)
                · rw [List.mem_singleton.mp hk, ← hD]
                  refine ⟨fun e => hps2 _ (List.mem_append_right _ (.head _)), fun l hl => hcov2 l ?_⟩
                  rw [hls2]
                  refine lP.mem_iff.mpr ?_
                  rw [hkeys]; exact hl
    · intro u news₁ h tk hI F3 N3
      obtain ⟨fvs, n, W, ps, done, rest, rfl, hsub, hBW, hWf, hT, hvs, hss, hl, hokp, hcov⟩ := hI
      clear F1 N1 N2
      cases hvs
      rw [List.append_nil] at hss
      k_steps
      refine hret _ _ _ _ (by k_asm) (by k_asm) ⟨fl, fvs, n, ps, W, rfl, rfl, hsub, hWf, hT, by omega, hokp, fun k hk => hcov k ?_⟩
      rw [hss]
      refine hP.mem_iff.mpr ?_
      exact key_of_some hk

section
open LCg
variable {prog : Program} {w : World} {A : Around} {E : Value → Shared → Prop} {s : Shared} {h₀ : Heap} {L : Addr} {m : Str → Option Value} {env : Env}
/-- the source of a comprehension whose target has three names: a list of the ledger, of tuples of three -/
def Src3 (prog : Program) (w : World) (A : Around) (h₀ : Heap) (L : Addr) (m : Str → Option Value) (env : Env) (elt : Expr) (x1 x2 x3 : Str) (scope : Scope) (cl : List (Str × Addr)) (Q : Value → Shared → Prop) (xv : Value) (s₁ : Shared) : Prop :=
  ∃ ax its k news, ∃ Inv : Nat → List Value → List (Addr × Obj) → Prop, xv = .ref ax ∧ A.handled = none ∧ Fr h₀ L s₁.heap m ∧ News h₀ L s₁.heap news ∧ (ax, ({ cls := .type "list", data := .seq its k } : Obj)) ∈ news ∧ its.size ≤ sizeLine ∧ Inv 0 [] news ∧
    (∀ i ys nw, Inv i ys nw → (ax, ({ cls := .type "list", data := .seq its k } : Obj)) ∈ nw) ∧
    (∀ g i v ys nw, its[i]? = some v → Inv i ys nw → ∃ (t : Addr) (ot : Obj) (a b c : Value) (nt : Nat), v = .ref t ∧ (t, ot) ∈ nw ∧ ot.cls = .type "tuple" ∧ ot.data = .seq #[a, b, c] nt ∧
      ∀ I oI C oC D m₂ h tk (E' : Value → Shared → Prop), NsObj oC m₂ → m₂ x1 = some a → m₂ x2 = some b → m₂ x3 = some c → Fr h₀ L h m → News h₀ L h ((I, oI) :: (C, oC) :: (D, lst ys) :: nw) → Off3 I C D nw → ((@Ne Nat I C) ∧ (@Ne Nat I D) ∧ (@Ne Nat C D)) →
      wpAny (model prog w) A (eval elt (compEnvC scope cl C env)) (CompEnd h₀ L m { ({ s₁ with heap := g } : Shared) with heap := h, toks := tk } I oI C oC D (lst ys) (fun _ => True) (fun y nw' => Inv (i + 1) (ys ++ [y]) nw')) E' { ({ s₁ with heap := g } : Shared) with heap := h, toks := tk }) ∧
    (∀ g ys nw D h tk, Inv its.size ys nw → Fr h₀ L h m → News h₀ L h ((D, lst ys) :: nw) → Off1 D nw → Q (.ref D) { ({ s₁ with heap := g } : Shared) with heap := h, toks := tk })
theorem new_ne {h : Heap} {b : Addr} (hb : b < h.objs.size) : b ≠ h.objs.size := Nat.ne_of_lt hb
theorem ListComp_3 {elt iter : Expr} {x1 x2 x3 : Str} {p1 p2 p3 tp : Pos} {tk} {scope : Scope} {cl : List (Str × Addr)} {pos : Pos} {Q : Value → Shared → Prop} (F₀ : Fr h₀ L s.heap m)
    (hclos : closureFor scope env = pure cl) (hcell : ∀ y ∈ scope.names, y.2 ≠ .cell) (hkind : scope.kind = .function)
    (hnames : ∀ y ∈ scope.names, y.2 = .local → scope.names.lookup y.1 = some .local) (hx1 : scope.names.lookup x1 = some .local) (hx2 : scope.names.lookup x2 = some .local) (hx3 : scope.names.lookup x3 = some .local) (h12 : x1 ≠ x2) (h13 : x1 ≠ x3) (h23 : x2 ≠ x3)
    (h : wpAny (model prog w) A (eval iter env) (Src3 prog w A h₀ L m env elt x1 x2 x3 scope cl Q) E s)
    (hs : ∀ x, foldedSetIterable iter env x = pure x := by intro _; rfl) :
    wpAny (model prog w) A (eval (.ListComp elt [⟨.Tuple [.Name x1 p1, .Name x2 p2, .Name x3 p3] tk tp, iter, [], 0⟩] scope pos) env) Q E s := by
  rw [eval_ListComp]
  refine wpAny_comprehension_free (use := none) rfl hs hclos hkind hnames (wpAny_mono h (fun xv s₁ h₁ => ?_) fun _ _ e => e)
  obtain ⟨ax, its, k, news, Inv, rfl, hh, F, N, hax, hsz, hI0, hIax, turn, done⟩ := h₁
  have hl : s₁.heap.IsList ax its := ⟨_, (N _ hax).1, rfl, k, rfl⟩
  have hlt : ax < s₁.heap.objs.size := by obtain ⟨_, e, _⟩ := hl; exact Heap.lt_size e
  refine wpAny_pyIter_list hl ?_
  -- three new objects: the iterator, the list, the names of the block
  have hLlt : L < s₁.heap.objs.size := F.ns.lt
  generalize hIz : s₁.heap.objs.size = I at hlt hLlt
  have up1 : ∀ b o, s₁.heap.get? b = some o → (s₁.heap.push { cls := .type "list_iterator", data := .fields #[.ref ax, .int 0 0] }).get? b = some o := fun b o e => Heap.get?_push_of_some _ e
  have hI1 : (s₁.heap.push { cls := .type "list_iterator", data := .fields #[.ref ax, .int 0 0] }).get? I = some { cls := .type "list_iterator", data := .fields #[.ref ax, .int 0 0] } := by rw [← hIz]; exact Heap.get?_push_size _ rfl
  have hs1 : (s₁.heap.push { cls := .type "list_iterator", data := .fields #[.ref ax, .int 0 0] }).objs.size = I + 1 := by rw [Heap.size_push, hIz]
  generalize hg1 : s₁.heap.push { cls := .type "list_iterator", data := .fields #[.ref ax, .int 0 0] } = g1 at up1 hI1 hs1
  refine wpAny_newObj_type (wpAny_newFunctionEnv hcell (by intro y hy; simp at hy) (fun h₁ hns₁ hsb₁ => ?_) hkind)
  dsimp only at hns₁ hsb₁ ⊢
  have hD2 : (g1.push { cls := .type "list", dict := none, data := .seq ([] : List Value).toArray }).get? (I + 1) = some (lst []) := by rw [← hs1]; exact Heap.get?_push_size _ rfl
  have hs2 : (g1.push { cls := .type "list", dict := none, data := .seq ([] : List Value).toArray }).objs.size = I + 2 := by rw [Heap.size_push, hs1]
  have up2 : ∀ b o, g1.get? b = some o → (g1.push { cls := .type "list", dict := none, data := .seq ([] : List Value).toArray }).get? b = some o := fun b o e => Heap.get?_push_of_some _ e
  generalize hg2 : g1.push { cls := .type "list", dict := none, data := .seq ([] : List Value).toArray } = g2 at hns₁ hsb₁ hD2 hs2 up2
  rw [hs2] at hns₁ hsb₁ ⊢
  rw [hs1]
  have fresh : ∀ a, I ≤ a → h₀.get? a = none := fun a ha => by
    cases e : h₀.get? a with
    | none => rfl
    | some o' => exact absurd (Heap.lt_size (F.keep a o' e)) (Nat.not_lt.mpr (hIz ▸ ha))
  have hI₀ := fresh I (Nat.le_refl _)
  have hD₀ := fresh (I + 1) (Nat.le_succ _)
  have hC₀ := fresh (I + 2) (Nat.le_add_right _ _)
  have lI : @Ne Nat L I := Nat.ne_of_lt hLlt
  have lD : @Ne Nat L (I + 1) := Nat.ne_of_lt (Nat.lt_succ_of_lt hLlt)
  have lC : @Ne Nat L (I + 2) := Nat.ne_of_lt (Nat.lt_succ_of_lt (Nat.lt_succ_of_lt hLlt))
  have old : ∀ b o, b ≠ I + 2 → g1.get? b = some o → h₁.get? b = some o := fun b o hb e => hsb₁.extBut b o hb (Heap.get?_push_of_some _ (up2 b o e))
  have ltN : ∀ p ∈ news, @LT.lt Nat _ p.1 I := fun p hp => hIz ▸ Heap.lt_size (N p hp).1
  have off₀ : Off3 I (I + 2) (I + 1) news := Off3.of fun p hp => ⟨Nat.ne_of_lt (ltN p hp), Nat.ne_of_lt (Nat.lt_succ_of_lt (Nat.lt_succ_of_lt (ltN p hp))), Nat.ne_of_lt (Nat.lt_succ_of_lt (ltN p hp))⟩
  have W := Walks.list (prog := prog) (w := w) hh I ax (Nat.ne_of_lt hlt) its
  have eC : ∀ {b : Addr}, b < I → b ≠ I + 2 := fun hb => Nat.ne_of_lt (Nat.lt_succ_of_lt (Nat.lt_succ_of_lt hb))
  have st1 : h₁.IsListIter I ax 0 ∧ h₁.IsList ax its := by
    refine ⟨⟨_, old I _ (Nat.ne_of_lt (Nat.lt_succ_of_lt (Nat.lt_succ_self _))) hI1, rfl, rfl⟩, ?_⟩
    obtain ⟨o, e, r⟩ := hl
    exact ⟨o, old _ _ (eC hlt) (up1 _ _ e), r⟩
  have hD1 : h₁.get? (I + 1) = some (lst []) := hsb₁.extBut _ _ (Nat.ne_of_lt (Nat.lt_succ_self _)) (Heap.get?_push_of_some _ hD2)
  have up : ∀ b o, s₁.heap.get? b = some o → h₁.get? b = some o := fun b o e => old b o (eC (hIz ▸ Heap.lt_size e)) (up1 b o e)
  have ID : I ≠ I + 1 := Nat.ne_of_lt (Nat.lt_succ_self _)
  have IC : I ≠ I + 2 := Nat.ne_of_lt (Nat.lt_succ_of_lt (Nat.lt_succ_self _))
  have CD : I + 2 ≠ I + 1 := Nat.ne_of_gt (Nat.lt_succ_self _)
  have AC : ax ≠ I + 2 := eC hlt
  have AD : ax ≠ I + 1 := Nat.ne_of_lt (Nat.lt_succ_of_lt hlt)
  have loop : ∀ (RR : Result → Shared → Prop), (∀ h' tk' m', h'.Ns (I + 2) m' → (∀ h'', Heap.SameBut (I + 2) h' h'' → Q (.ref (I + 1)) { s₁ with heap := h'', toks := tk' }) → RR (.ok .next) { s₁ with heap := h', toks := tk' }) →
      ∀ tk0, codeAny (model prog w) A (.compLoop (.ListComp elt [⟨.Tuple [.Name x1 p1, .Name x2 p2, .Name x3 p3] tk tp, iter, [], 0⟩] scope pos) 0 (.ref I) (.ref (I + 1)) (compEnvC scope cl (I + 2) env)) RR { s₁ with heap := h₁, toks := tk0 } := by
    intro RR hRR tk0
    refine LCp.codeAny_compLoop_pair
      (fun k s' => ∃ h' tk i ys m' nw, s' = { s₁ with heap := h', toks := tk } ∧ i ≤ its.size ∧ k = its.size + 1 - i ∧ ys.length = i ∧ (h'.IsListIter I ax i ∧ h'.IsList ax its) ∧ Fr h₀ L h' m ∧ h'.Ns (I + 2) m' ∧
        News h₀ L h' ((I + 1, lst ys) :: nw) ∧ Off3 I (I + 2) (I + 1) nw ∧ Inv i ys nw) ?_ (its.size + 1) ⟨h₁, tk0, 0, [], _, news, rfl, Nat.zero_le _, rfl, rfl, st1, F.keeps up, hns₁, fun p hp => ?_, off₀, hI0⟩
    · rintro k s' ⟨h', tk', i, ys, m', nw, rfl, hi, rfl, hyl, hst, F', hn', N', off', hI⟩
      have off3 := off'.mem
      by_cases hlt' : i < its.size
      · refine W.item i _ _ _ hlt' hst fun v h₂ tk₂ hv hst₂ hk₂ => ?_
        obtain ⟨t, ot, a, b, c, nt, rfl, hmt, hct, hdt, go⟩ := turn s₁.heap i v ys nw hv hI
        have N₂ : News h₀ L h₂ ((I + 1, lst ys) :: nw) := news_but N' hk₂ fun p hp => by
          rcases List.mem_cons.mp hp with rfl | hp
          · exact Ne.symm ID
          · exact (off3 p hp).1
        have ht : IsTup h₂ t #[a, b, c] := ⟨ot, (N₂ _ (.tail _ hmt)).1, hct, nt, hdt⟩
        refine wpAny_letOwnedTupleGo_listiter hst₂.1 ?_
        refine assign_Tuple_tuple hh ht rfl rfl fun h₃ he => ?_
        have he' : ∀ b o, h₂.get? b = some o → h₃.get? b = some o := fun b o e => he b o (Nat.ne_of_lt (Heap.lt_size e)) e
        have nsC : h₃.Ns (I + 2) m' := (hn'.at' fun o e => hk₂ _ o (by simp) e).at' fun o e => he' _ o e
        refine assignInOrder_cons (wpAny_assign_Name (wpAny_storeName_local (lookup_relabel_local hx1) nsC (fun h₄ n₄ s₄ => ?_) (by simp [compEnvC, relabel, hkind])))
        refine assignInOrder_cons (wpAny_assign_Name (wpAny_storeName_local (lookup_relabel_local hx2) n₄ (fun h₅ n₅ s₅ => ?_) (by simp [compEnvC, relabel, hkind])))
        refine assignInOrder_cons (wpAny_assign_Name (wpAny_storeName_local (lookup_relabel_local hx3) n₅ (fun h₆ n₆ s₆ => ?_) (by simp [compEnvC, relabel, hkind])))
        refine assignInOrder_nil ?_
        have up6 : ∀ b o, b ≠ I + 2 → h₂.get? b = some o → h₆.get? b = some o := fun b o hb e => s₆.extBut b o hb (s₅.extBut b o hb (s₄.extBut b o hb (he' b o e)))
        have st6 : h₆.IsListIter I ax (i + 1) ∧ h₆.IsList ax its := W.frame _ _ _ hst₂ fun b hb o e => up6 b o (fun q => by
          rcases List.mem_cons.mp hb with hb | hb
          · exact IC (hb ▸ q)
          · exact AC (List.mem_singleton.mp hb ▸ q)) e
        obtain ⟨oI, heI⟩ : ∃ o, h₆.get? I = some o := by obtain ⟨o, e, _⟩ := st6.1; exact ⟨o, e⟩
        obtain ⟨oC, heC, hoC⟩ := ns_obj n₆
        have F₆ : Fr h₀ L h₆ m := ((((fr_but F' hk₂ lI hI₀).keeps he').change s₄ (Ne.symm lC) hC₀).change s₅ (Ne.symm lC) hC₀).change s₆ (Ne.symm lC) hC₀
        have N₆ : News h₀ L h₆ ((I, oI) :: (I + 2, oC) :: (I + 1, lst ys) :: nw) := fun p hp => by
          rcases List.mem_cons.mp hp with rfl | hp
          · exact ⟨heI, Ne.symm lI, hI₀⟩
          rcases List.mem_cons.mp hp with rfl | hp
          · exact ⟨heC, Ne.symm lC, hC₀⟩
          have z := N₂ p hp
          refine ⟨up6 _ _ ?_ z.1, z.2⟩
          rcases List.mem_cons.mp hp with rfl | hp
          · exact Ne.symm CD
          · exact (off3 p hp).2.1
        refine wpAny_mono (go I oI (I + 2) oC (I + 1) _ h₆ _ _ hoC (by simp [h12, h13]) (by simp [h23]) (by simp) F₆ N₆ off' ⟨IC, ID, CD⟩) (fun y s₇ h₇ => ?_) fun _ _ e => e
        obtain ⟨h₇, tk₇, nw', rfl, F₇, N₇, off₇, _, hI'⟩ := h₇
        have zI := (N₇ _ (.head _)).1
        have zC := (N₇ _ (.tail _ (.head _))).1
        have zD := (N₇ _ (.tail _ (.tail _ (.head _)))).1
        have N₇' : News h₀ L h₇ nw' := fun p hp => N₇ p (.tail _ (.tail _ (.tail _ hp)))
        have off7 := off₇.mem
        refine append_at (hsz := by show ys.toArray.size ≤ sizeLine; rw [List.size_toArray, hyl]; exact Nat.le_trans hi hsz) zD fun h₈ s₈ hD₈ => ?_
        have st8 : h₈.IsListIter I ax (i + 1) ∧ h₈.IsList ax its := by
          obtain ⟨o, e, r⟩ := st6.1
          rw [heI] at e; cases e
          exact ⟨⟨oI, s₈.extBut _ _ ID zI, r⟩, ⟨_, s₈.extBut _ _ AD (N₇' _ (hIax _ _ _ hI')).1, rfl, k, rfl⟩⟩
        refine ⟨its.size + 1 - (i + 1), by omega, h₈, _, i + 1, ys ++ [y], _, nw', rfl, hlt', rfl, by rw [List.length_append, List.length_singleton, hyl], st8, F₇.change s₈ (Ne.symm lD) hD₀, (hoC.ns zC).sameBut s₈ CD, fun p hp => ?_, off₇, hI'⟩
        rcases List.mem_cons.mp hp with rfl | hp
        · exact ⟨hD₈.trans (congrArg some (lst_snoc ys y)), Ne.symm lD, hD₀⟩
        · exact ⟨s₈.extBut _ _ (off7 p hp).2.2 (N₇' p hp).1, (N₇' p hp).2⟩
      · obtain rfl : i = its.size := Nat.le_antisymm hi (Nat.not_lt.mp hlt')
        refine W.done _ _ _ hst fun h₂ tk₂ hk₂ => ?_
        have N₂ : News h₀ L h₂ ((I + 1, lst ys) :: nw) := news_but N' hk₂ fun p hp => by
          rcases List.mem_cons.mp hp with rfl | hp
          · exact Ne.symm ID
          · exact (off3 p hp).1
        have nsC : h₂.Ns (I + 2) m' := hn'.at' fun o e => hk₂ _ o (by simp) e
        refine hRR h₂ tk₂ m' nsC (fun h'' hs'' => done s₁.heap ys nw (I + 1) h'' tk₂ hI ((fr_but F' hk₂ lI hI₀).change hs'' (Ne.symm lC) hC₀) (fun p hp => ?_) off'.one)
        refine ⟨hs''.extBut _ _ ?_ (N₂ p hp).1, (N₂ p hp).2⟩
        rcases List.mem_cons.mp hp with rfl | hp
        · exact Ne.symm CD
        · exact (off3 p hp).2.1
    · rcases List.mem_cons.mp hp with rfl | hp
      · exact ⟨hD1, Ne.symm lD, hD₀⟩
      · exact ⟨up _ _ (N p hp).1, (N p hp).2⟩
  exact codeAny_compStart_list (loop _ (fun h' tk' m' n k => ⟨m', n, k⟩) _) (W.self 0 _ _ _ st1 (loop _ (fun h' tk' m' n k => ⟨m', n, k⟩) _))
end

section
variable {prog : Program} {w : World} {p : Program} {loose : List Str} {mean : ExcName → Option Value} {mg mb : Str → Option Value}
    {dp un : Nat} {gd : Option (List Code)} {cn : Str} {cs : Scope} {a : Addr} {ccd : Value} {cl : List (Str × Addr)} {outer : List Env} {A₀ : Around} {base h₀ : Heap} {L : Addr} {m : Str → Option Value} {s : Shared} {Q E : Value → Shared → Prop} {news R : List (Addr × Obj)}
theorem con_all {v : Value} {kvs : List (Str × Value)} {f : Str → SD} (B : Below A₀ base outer h₀) (F : Fr h₀ L s.heap m) (X : (hd.heap_1 w.params).In h₀) (N : News h₀ L s.heap news) (T : Top p loose mean mg mb h₀) (hk : cs.kind = .function)
    (H : LayIn prog w R v kvs) (hs : ∀ p ∈ R, p ∈ news) (hf : ∀ k u, valueAt kvs k = some u → ScIn prog w R u (f k)) (hd : dp + 10 < 900) (hu : un + 100 < 9000)
    (ret : ∀ fl fvs n ps W h' tk', Fr h₀ L h' m → News h₀ L h' ((fl, listOf (List.toArray fvs) n) :: (W ++ news)) → Trips W fvs ps → fvs.length ≤ 30 → OkP ps → (∀ k, (valueAt kvs k).isSome = true → Cov ps k (f k)) → Q (.ref fl) { s with heap := h', toks := tk' }) :
    wpAny (model prog w) (ktrTop dp un gd cn cs L a ccd cl outer) (call (.ref 64) [v]) Q E s :=
  con_use B F X N T hk (all_c (H.ly.mono hs) (fun k u e => (hf k u e).mono hs) H.len H.kok) hd hu fun r news' h' tk' F' N' hr => by
    obtain ⟨fl, fvs, n, ps, W, rfl, rfl, hsub, hoff, hT, hl, ho, hc⟩ := hr
    refine ret fl fvs n ps W h' tk' F' (fun q hq => ?_) hT hl ho hc
    rcases List.mem_cons.mp hq with rfl | hq
    · exact N' _ (.head _)
    rcases List.mem_append.mp hq with hq | hq
    · exact N' _ (.tail _ hq)
    · exact N' _ (.tail _ (hsub _ hq))
end
abbrev pd (p : Str × Str) : Dat := .tuple [.str p.1, .str p.2]
theorem trips_get {W : List (Addr × Obj)} {vs : List Value} {ps : List (Str × Str)} (h : Trips W vs ps) : ∀ {i : Nat} {v : Value}, vs[i]? = some v → ∃ t a b ta tb x, v = .ref t ∧ (t, ({ cls := .type "tuple", data := .seq (List.toArray [.str a ta, .str b tb, x]) } : Obj)) ∈ W ∧ ps[i]? = some (a, b) := by
  induction h with
  | nil => intro i v h; simp at h
  | @cons t a b ta tb x vs ps m _ ih =>
    intro i v h
    cases i with
    | zero => exact ⟨t, a, b, ta, tb, x, by simpa using h.symm, m, rfl⟩
    | succ i => exact ih (by simpa using h)
theorem trips_len {W : List (Addr × Obj)} {vs : List Value} {ps : List (Str × Str)} (h : Trips W vs ps) : vs.length = ps.length := by
  induction h with
  | nil => rfl
  | cons _ _ ih => simp [ih]
theorem pd_ok {ps : List (Str × Str)} (h : OkP ps) : ∀ d ∈ ps.map pd, kqdOk 8 d = true := fun d hd => by
  obtain ⟨p, hp, rfl⟩ := List.mem_map.mp hd
  have := h p hp
  simp [kqdOk, this.1, this.2]
theorem LayIn.pick {prog : Program} {w : World} {R : List (Addr × Obj)} {v : Value} {kvs : List (Str × Value)} (h : LayIn prog w R v kvs) : ∃ f : Str → SD, ∀ k u, valueAt kvs k = some u → ScIn prog w R u (f k) ∧ PyData.strOk (f k).tag = true := by
  have : ∀ k, ∃ D : SD, ∀ u, valueAt kvs k = some u → ScIn prog w R u D ∧ PyData.strOk D.tag = true := fun k => by
    cases hv : valueAt kvs k with
    | none => exact ⟨⟨k, 0, false, 0⟩, fun u e => by cases e⟩
    | some u =>
      obtain ⟨D, a, b⟩ := h.sc k u hv
      exact ⟨D, fun u' e => by cases e; exact ⟨a, b⟩⟩
  exact ⟨fun k => (this k).choose, fun k u e => (this k).choose_spec u e⟩
theorem news_pick {h₀ h : Heap} {L : Addr} {news : List (Addr × Obj)} (N : News h₀ L h news) (l' : List (Addr × Obj)) (hs : ∀ p ∈ l', p ∈ news) : News h₀ L h l' := news_drop N hs
section
open LCg
variable {prog : Program} {w : World} {A : Around} {h₀ : Heap} {L : Addr} {m : Str → Option Value} {env : Env} {elt : Expr} {x1 x2 x3 : Str} {scope : Scope} {cl : List (Str × Addr)} {Q : Value → Shared → Prop} {s₁ : Shared} {fl : Addr} {fvs : List Value} {n : Nat} {ps : List (Str × Str)} {base W : List (Addr × Obj)}
theorem src3_intro (hh : A.handled = none) (F : Fr h₀ L s₁.heap m) (N : News h₀ L s₁.heap ((fl, listOf (List.toArray fvs) n) :: base)) (hT : Trips W fvs ps) (hW : ∀ p ∈ W, p ∈ base) (hz : fvs.length ≤ 30)
    (turn : ∀ s' ys nw t a b ta tb x, (t, ({ cls := .type "tuple", data := .seq (List.toArray [.str a ta, .str b tb, x]) } : Obj)) ∈ nw → ∀ I oI C oC D m₂ h tk (E' : Value → Shared → Prop), NsObj oC m₂ → m₂ x1 = some (.str a ta) → m₂ x2 = some (.str b tb) → m₂ x3 = some x → Fr h₀ L h m →
      News h₀ L h ((I, oI) :: (C, oC) :: (D, lst ys) :: nw) → Off3 I C D nw → ((@Ne Nat I C) ∧ (@Ne Nat I D) ∧ (@Ne Nat C D)) →
      wpAny (model prog w) A (eval elt (compEnvC scope cl C env)) (CompEnd h₀ L m { (s' : Shared) with heap := h, toks := tk } I oI C oC D (lst ys) (fun _ => True) (fun y nw' => (∀ p ∈ nw, p ∈ nw') ∧ DatIn nw' y (pd (a, b)))) E' { s' with heap := h, toks := tk })
    (done : ∀ g ys nw D h tk, DatAll nw ys (ps.map pd) → Fr h₀ L h m → News h₀ L h ((D, lst ys) :: (nw ++ (fl, listOf (List.toArray fvs) n) :: base)) → Q (.ref D) { ({ s₁ with heap := g } : Shared) with heap := h, toks := tk }) :
    Src3 prog w A h₀ L m env elt x1 x2 x3 scope cl Q (.ref fl) s₁ := by
  refine ⟨fl, List.toArray fvs, n, _, fun i ys nw => (∀ p ∈ (fl, listOf (List.toArray fvs) n) :: base, p ∈ nw) ∧ DatAll nw ys ((ps.take i).map pd), rfl, hh, F, N, .head _, by rw [List.size_toArray, sizeLine_eq]; omega, ⟨fun _ h => h, .nil⟩, fun i ys nw hI => hI.1 _ (.head _), ?_, ?_⟩
  · intro g i v ys nw hv hI
    rw [List.getElem?_toArray] at hv
    obtain ⟨t, a, b, ta, tb, x, rfl, hm, hp⟩ := trips_get hT hv
    have hm' := hI.1 _ (.tail _ (hW _ hm))
    refine ⟨t, _, _, _, _, _, rfl, hm', rfl, rfl, fun I oI C oC D m₂ h tk E' hC e1 e2 e3 F' N' off ne => ?_⟩
    refine wpAny_mono (turn { s₁ with heap := g } ys nw t a b ta tb x hm' I oI C oC D m₂ h tk E' hC e1 e2 e3 F' N' off ne) (fun y s₂ hq => ?_) fun _ _ e => e
    obtain ⟨h', tk', nw', e, F₂, N₂, off₂, hS, h1, h2⟩ := hq
    refine ⟨h', tk', nw', e, F₂, N₂, off₂, hS, fun p hp => h1 p (hI.1 p hp), ?_⟩
    rw [List.take_add_one, hp, List.map_append]
    exact datAll_snoc (hI.2.mono h1) h2
  · intro g ys nw D h tk hI F' N' _
    refine done g ys nw D h tk ?_ F' (fun p hp => ?_)
    · have := hI.2
      rw [List.size_toArray, trips_len hT, List.take_length] at this
      exact this
    · rcases List.mem_cons.mp hp with rfl | hp
      · exact N' _ (.head _)
      rcases List.mem_append.mp hp with hp | hp
      · exact N' _ (.tail _ hp)
      · exact N' _ (.tail _ (hI.1 p hp))
theorem compEnd_T {I C D : Addr} {s₁ : Shared} {oI oC oD : Obj} {rest : Value → List (Addr × Obj) → Prop} {y : Value} {h' : Heap} {tk : Nat} {T : Addr} {oT : Obj} {nw : List (Addr × Obj)}
    (F : Fr h₀ L h' m) (N : News h₀ L h' ((T, oT) :: (I, oI) :: (C, oC) :: (D, oD) :: nw)) (off : Off3 I C D nw) (h1 : @Ne Nat T I) (h2 : @Ne Nat T C) (h3 : @Ne Nat T D) (r : rest y ((T, oT) :: nw)) :
    CompEnd h₀ L m s₁ I oI C oC D oD (fun _ => True) rest y { s₁ with heap := h', toks := tk } := by
  refine CompEnd.intro F N ((T, oT) :: nw) (fun p hp => ?_) ⟨⟨h1, h2, h3⟩, off⟩ trivial r
  simp only [List.mem_cons] at hp ⊢
  rcases hp with hp | hp | hp | hp | hp <;> simp only [hp, true_or, or_true]
end
theorem cov_some {ps : List (Str × Str)} {k lg : Str} {D : SD} {lkvs : List (Str × Value)} {v : Value} (h : Cov ps k D) (hk : lkvs.map (·.1) = langs D.k) (hv : valueAt lkvs lg = some v) : pd (k, lg) ∈ ps.map pd :=
  List.mem_map.mpr ⟨_, h.2 lg (hk ▸ key_of_some (by rw [hv]; rfl)), rfl⟩
theorem cov_df {ps : List (Str × Str)} {k : Str} {D : SD} (h : Cov ps k D) (e : D.df = true) : pd (k, Str.ofString "dflt") ∈ ps.map pd :=
  List.mem_map.mpr ⟨_, h.1 e, rfl⟩

local macro_rules | `(tactic| walk_at "call ref") => `(tactic| (ktd_call (Value.ref 164) [Value.ref _, Value.ref _]; k_search con_pick; intro r' o1' o2' h' tk' hr' hP' F' N'; (try dsimp only at N'); (try k_sweep)))
local macro_rules | `(tactic| walk_at "call ref") => `(tactic| ((try dsimp only [List.cons_append, List.nil_append]); ktd_call (Value.ref 64) [_]; k_search con_all; intro fl' fvs' n' ps' W' h' tk' F' N' hT' hl' ho' hc'; (try k_sweep); (try dsimp only); (try k_fold)))
local macro_rules | `(tactic| walk_at "eval ListComp") => `(tactic| (k_here; k_dflt (refine ListComp_3 (F₀ := by k_asm) (by with_unfolding_all rfl) (by decide) (by rfl) (by decide) (by rfl) (by rfl) (by rfl) (by decide) (by decide) (by decide) ?_)))
local macro_rules | `(tactic| walk_at "getMethod ref") => `(tactic| (k_here; (with_reducible show wpAny _ _ (getMethod (Value.ref _) (Str.ofString "get") _) _ _ _); k_dflt (refine' kdg_method (knd := PySem.strKind _ _) ?kN ?km ?kd ?_; (case kN => k_asm); (case km => k_mem); (case kd => assumption))))
local macro_rules | `(tactic| walk_at "call builtin:dict.get") => `(tactic| (ktd_call (Value.builtin "dict.get") [Value.ref _, Value.str _ _, _]; k_dflt (first
  | (refine' kdg_get2 (knd := PySem.strKind _ _) ?kN ?km ?kd ?kl (strKind_is _ _ _ _) (some _) ?kv ?_; (case kN => k_asm); (case km => k_mem); (case kd => assumption); (case kl => assumption); (case kv => assumption))
  | (refine' kdg_get2 (knd := PySem.strKind _ _) ?kN ?km ?kd ?kl (strKind_is _ _ _ _) none ?kv ?_; (case kN => k_asm); (case km => k_mem); (case kd => assumption); (case kl => assumption); (case kv => assumption))); (try dsimp only [Option.getD])))

theorem names_c {prog : Program} {w : World} {p : Program} {loose : List Str} {mean : ExcName → Option Value} {mg mb : Str → Option Value} {R : List (Addr × Obj)} :
   Con prog w (hd.heap_1 w.params) p loose mean mg mb 1 36 [] R fun r news' => ∃ d o kvs, r = .ref d ∧ news' = (d, o) :: R ∧ (d == sysModules) = false ∧ o.IsDictOf (PySem.strKind prog w) kvs ∧
     (∃ t, valueAt kvs (Str.ofString "ur") = some (.str (Str.ofString "URD ") t)) ∧ (∃ t, valueAt kvs (Str.ofString "ar") = some (.str (Str.ofString "ARA ") t)) ∧ (∃ t, valueAt kvs (Str.ofString "de") = some (.str (Str.ofString "DEU ") t)) ∧ valueAt kvs (Str.ofString "xx") = none := by
  intro dp un gd cn cs a ccd cl outer A₀ base h₀ L m s Q E B F X N T hk hdp hun hret
  refine wpAny_call ?_
  k_dflt ktr_enter
  k_steps
  (rename Fr h₀ _ _ _ => F1); (rename News h₀ _ _ _ => N1)
  rename Obj.IsDictOf _ _ _ => hd1
  rename _ = false => lo1
  exact hret _ _ _ _ F1 N1 ⟨_, _, _, rfl, rfl, lo1, hd1, ⟨_, rfl⟩, ⟨_, rfl⟩, ⟨_, rfl⟩, rfl⟩
section
variable {prog : Program} {w : World} {p : Program} {loose : List Str} {mean : ExcName → Option Value} {mg mb : Str → Option Value}
    {dp un : Nat} {gd : Option (List Code)} {cn : Str} {cs : Scope} {a : Addr} {ccd : Value} {cl : List (Str × Addr)} {outer : List Env} {A₀ : Around} {base h₀ : Heap} {L : Addr} {m : Str → Option Value} {s : Shared} {Q E : Value → Shared → Prop} {news : List (Addr × Obj)}
theorem con_names (B : Below A₀ base outer h₀) (F : Fr h₀ L s.heap m) (X : (hd.heap_1 w.params).In h₀) (N : News h₀ L s.heap news) (T : Top p loose mean mg mb h₀) (hk : cs.kind = .function) (hd : dp + 10 < 900) (hu : un + 100 < 9000)
    (ret : ∀ d o kvs t1 t2 t3 h' tk', (d == sysModules) = false → o.IsDictOf (PySem.strKind prog w) kvs → valueAt kvs (Str.ofString "ur") = some (.str (Str.ofString "URD ") t1) → valueAt kvs (Str.ofString "ar") = some (.str (Str.ofString "ARA ") t2) → valueAt kvs (Str.ofString "de") = some (.str (Str.ofString "DEU ") t3) → valueAt kvs (Str.ofString "xx") = none →
      Fr h₀ L h' m → News h₀ L h' ((d, o) :: news) → Q (.ref d) { s with heap := h', toks := tk' }) :
    wpAny (model prog w) (ktrTop dp un gd cn cs L a ccd cl outer) (call (.ref 36) []) Q E s :=
  con_use B F X N T hk names_c hd hu fun r news' h' tk' F' N' hr => by
    obtain ⟨d, o, kvs, rfl, rfl, lo, hdi, ⟨t1, e1⟩, ⟨t2, e2⟩, ⟨t3, e3⟩, e4⟩ := hr
    exact ret d o kvs t1 t2 t3 h' tk' lo hdi e1 e2 e3 e4 F' N'
end
/-- the names of languages that the law draws, and their tags -/
def inSix (name tag : Str) : Prop :=
  (name = Str.ofString "ur" ∧ tag = Str.ofString "URD ") ∨ (name = Str.ofString "ar" ∧ tag = Str.ofString "ARA ") ∨ (name = Str.ofString "de" ∧ tag = Str.ofString "DEU ") ∨ (name = Str.ofString "xx" ∧ tag = Str.ofString "dflt") ∨ (name = Str.ofString "AR-Arab" ∧ tag = Str.ofString "ARA ") ∨ (name = Str.ofString "Ur-x" ∧ tag = Str.ofString "URD ")
section
local macro_rules | `(tactic| walk_at "call ref") => `(tactic| (k_here; (try dsimp only [List.append_nil, List.nil_append]); (with_reducible show wpAny _ _ (call (Value.ref 36) []) _ _ _); k_dflt (refine' con_names ?kB ?kF ?kX ?kN ?kT ?kK ?kd ?ku ?_; (case kB => k_asm); (case kF => k_asm); (case kX => k_asm); (case kN => k_asm); (case kT => k_asm); (case kK => first | exact rfl | assumption); (case kd => ktr_room); (case ku => ktr_room)); intro d' o' kvs' t1' t2' t3' h' tk' lo' hd' e1' e2' e3' e4' F' N'; (try k_sweep)))
theorem langtag_c {prog : Program} {w : World} {p : Program} {loose : List Str} {mean : ExcName → Option Value} {mg mb : Str → Option Value} {R : List (Addr × Obj)} {name tag : Str} {tk : Tok} (hi : inSix name tag) :
   Con prog w (hd.heap_1 w.params) p loose mean mg mb 2 43 [.str name tk] R fun r news' => ∃ t, r = .str tag t ∧ news' = R := by
  intro dp un gd cn cs a ccd cl outer A₀ base h₀ L m s Q E B F X N T hk hdp hun hret
  unfold inSix at hi
  rcases hi with ⟨rfl, rfl⟩ | ⟨rfl, rfl⟩ | ⟨rfl, rfl⟩ | ⟨rfl, rfl⟩ | ⟨rfl, rfl⟩ | ⟨rfl, rfl⟩
  all_goals
    refine wpAny_call ?_
    k_dflt ktr_enter
    k_steps
    (rename Fr h₀ _ _ _ => F1); (rename News h₀ _ _ _ => N1)
    exact hret _ _ _ _ F1 (news_drop N1 (by k_subL)) ⟨_, rfl, rfl⟩
end
theorem six_1 : inSix (Str.ofString "ur") (Str.ofString "URD ") := .inl ⟨rfl, rfl⟩
theorem six_2 : inSix (Str.ofString "ar") (Str.ofString "ARA ") := .inr (.inl ⟨rfl, rfl⟩)
theorem six_3 : inSix (Str.ofString "de") (Str.ofString "DEU ") := .inr (.inr (.inl ⟨rfl, rfl⟩))
theorem six_4 : inSix (Str.ofString "xx") (Str.ofString "dflt") := .inr (.inr (.inr (.inl ⟨rfl, rfl⟩)))
theorem six_5 : inSix (Str.ofString "AR-Arab") (Str.ofString "ARA ") := .inr (.inr (.inr (.inr (.inl ⟨rfl, rfl⟩))))
theorem six_6 : inSix (Str.ofString "Ur-x") (Str.ofString "URD ") := .inr (.inr (.inr (.inr (.inr ⟨rfl, rfl⟩))))
section
variable {prog : Program} {w : World} {p : Program} {loose : List Str} {mean : ExcName → Option Value} {mg mb : Str → Option Value}
    {dp un : Nat} {gd : Option (List Code)} {cn : Str} {cs : Scope} {a : Addr} {ccd : Value} {cl : List (Str × Addr)} {outer : List Env} {A₀ : Around} {base h₀ : Heap} {L : Addr} {m : Str → Option Value} {s : Shared} {Q E : Value → Shared → Prop} {news : List (Addr × Obj)}
theorem con_langtag {name tag : Str} {tk : Tok} (B : Below A₀ base outer h₀) (F : Fr h₀ L s.heap m) (X : (hd.heap_1 w.params).In h₀) (N : News h₀ L s.heap news) (T : Top p loose mean mg mb h₀) (hk : cs.kind = .function) (hi : inSix name tag) (hd : dp + 20 < 900) (hu : un + 200 < 9000)
    (ret : ∀ t h' tk', Fr h₀ L h' m → News h₀ L h' news → Q (.str tag t) { s with heap := h', toks := tk' }) :
    wpAny (model prog w) (ktrTop dp un gd cn cs L a ccd cl outer) (call (.ref 43) [.str name tk]) Q E s :=
  con_use B F X N T hk (langtag_c hi) hd hu fun r news' h' tk' F' N' hr => by
    obtain ⟨t, rfl, rfl⟩ := hr
    exact ret t h' tk' F' N'
end
theorem strself_ne {prog : Program} {w : World} {A : Around} {E : Value → Shared → Prop} {s : Shared} {x : Str} {t u : Tok} {Q : Value → Shared → Prop} (h : Q (.bool false) s) : wpAny (model prog w) A (compareOp .NotEq (.str x t) (.str x u)) Q E s := by
  refine PyProof.Rows.ne_str ?_
  rw [show (x != x) = false from by simp]
  exact h

local macro_rules | `(tactic| walk_at "call ref") => `(tactic| (ktd_call (Value.ref 43) [Value.str _ _]; k_search con_langtag; (case hi => with_reducible assumption); intro t' h' tk' F' N'; (try k_sweep)))
local macro_rules | `(tactic| walk_at "compareOp NotEq str str") => `(tactic| (k_here; with_reducible refine strself_ne ?_))

theorem lang_cut {G : Prop} {pa qa : Nat} {R : List (Addr × Obj)} {M : Model} {A : Around} {α : Type} {T : Sem α} {Q : α → Shared → Prop} {E : Value → Shared → Prop} (s : Shared) (mm : Str → Option Value) (g : Heap) (L : Addr)
    (kp : ∀ (p1 p2 : Obj) (h : Heap) (tk : Nat) (tg : Str) (tkg : Tok) (nm : Str) (tkn : Tok), inSix nm tg → PenOk qa p1 p2 → Fr g L h (fun y => if y = Str.ofString "tag" then some (.str tg tkg) else if y = Str.ofString "name" then some (.str nm tkn) else mm y) → News g L h ((pa, p1) :: (qa, p2) :: R) → wpAny M A T Q E { s with heap := h, toks := tk })
    (main : (∀ (p1 p2 : Obj) (h : Heap) (tk : Nat) (tg : Str) (tkg : Tok) (nm : Str) (tkn : Tok), inSix nm tg → PenOk qa p1 p2 → Fr g L h (fun y => if y = Str.ofString "tag" then some (.str tg tkg) else if y = Str.ofString "name" then some (.str nm tkn) else mm y) → News g L h ((pa, p1) :: (qa, p2) :: R) → wpAny M A T Q E { s with heap := h, toks := tk }) → G) : G := main kp
theorem pd_okk {a b : Str} (ha : PyData.strOk a = true) (hb : PyData.strOk b = true) : kqdOk 8 (pd (a, b)) = true := by
  simp [kqdOk, ha, hb]
theorem pd_in {W : List (Addr × Obj)} {T : Addr} {a b : Str} {ta tb : Tok} {n : Nat} (h : (T, ({ cls := .type "tuple", data := .seq (List.toArray [.str a ta, .str b tb]) n } : Obj)) ∈ W) : DatIn W (.ref T) (pd (a, b)) := .tuple h (.cons (.str _ _) (.cons (.str _ _) .nil))
theorem lang_c {prog : Program} {w : World} {p : Program} {loose : List Str} {mean : ExcName → Option Value} {mg mb : Str → Option Value}
   {pa qa : Nat} {o1 o2 : Obj} {R : List (Addr × Obj)} {v : Value} {kvs : List (Str × Value)} (hP : PenOk qa o1 o2) (hpq : pa ≠ qa) (h1 : ∀ r ∈ R, r.1 ≠ pa) (h2 : ∀ r ∈ R, r.1 ≠ qa) (H : LayIn prog w R v kvs) :
   Con prog w (hd.heap_1 w.params) p loose mean mg mb 4 190 [.ref pa, v] ((pa, o1) :: (qa, o2) :: R)
     fun r news' => r = .bool true ∧ ∃ o1' o2', PenOk qa o1' o2' ∧ news' = (pa, o1') :: (qa, o2') :: R := by
  intro dp un gd cn cs a ccd cl outer A₀ base h₀ L m s Q E B F X N T hk hdp hun hret
  have hLy := H.ly
  have hlen := H.len
  cases hLy with
  | mk m1 m2 m3 hol lo =>
    refine wpAny_call ?_
    k_dflt ktn_open
    obtain ⟨f, hf⟩ := H.pick
    apply lang_cut (pa := pa) (qa := qa) (R := R) s
    case main =>
      intro key
      k_steps
      rename_i r p1 p2 _ _ hr hPn _ _ _ _ _ _ _ _ _ _ _ _ _
      simp only [List.mem_cons, List.not_mem_nil, or_false] at hr
      rcases hr with rfl | rfl | rfl | rfl | rfl | rfl
      all_goals
        repeat ((fail_if_success (with_reducible show wpAny _ _ (execs (PySem.Stmt.If _ _ _ _ :: _) _) _ _ _)); first | (k_unfold; (try dsimp only)) | walk1 | (dsimp only; walk1) | (leave1; try dsimp only))
        (rename Fr _ _ _ _ => F1); (rename News _ _ _ _ => N1)
        have N2 := news_pick N1 ((pa, p1) :: (qa, p2) :: R) (fun p hp => by
          simp only [List.mem_cons] at hp ⊢
          rcases hp with hp | hp | hp <;> simp only [hp, true_or, or_true])
        dsimp (config := { zetaDelta := true }) only
        first | exact key p1 p2 _ _ _ _ _ _ six_1 hPn F1 N2 | exact key p1 p2 _ _ _ _ _ _ six_2 hPn F1 N2 | exact key p1 p2 _ _ _ _ _ _ six_3 hPn F1 N2 | exact key p1 p2 _ _ _ _ _ _ six_4 hPn F1 N2 | exact key p1 p2 _ _ _ _ _ _ six_5 hPn F1 N2 | exact key p1 p2 _ _ _ _ _ _ six_6 hPn F1 N2
    case kp =>
      intro p1 p2 h tk tag tkg nm tkn hi6 hPn F0 N0
      show wpAny _ _ _ _ _ _
      k_steps
      (rename Fr _ _ _ _ => F1); (rename News _ _ _ _ => N1)
      rename_i B hB tkB vs ss nB hS hPm hO lB
      have N2 := news_pick N1 ((B, listOf (List.toArray vs) nB) :: (pa, p1) :: (qa, p2) :: R) (fun p hp => by
          simp only [List.mem_cons] at hp ⊢
          rcases hp with hp | hp | hp | hp <;> simp only [hp, true_or, or_true])
      dsimp (config := { zetaDelta := true }) only
      clear N1
      refine loopS [Str.ofString "script_tag", Str.ofString "held", Str.ofString "due", Str.ofString "heard"] (fun r _ nw => ∃ done rest, (∀ p ∈ (B, listOf (List.toArray vs) nB) :: (pa, p1) :: (qa, p2) :: R, p ∈ nw) ∧ StrsAre r rest ∧ done ++ rest = ss) rfl F1 N2 (by k_mem) rfl rfl ?_ ?_ ?_
      · exact ⟨[], ss, fun _ hp => hp, hS, rfl⟩
      · intro I v r u W it h tk hI hlp hit hoff F3 N3
        obtain ⟨done, rest, hsub, hvs, hss⟩ := hI
        clear F1 N2
        have hRW : ∀ p ∈ R, p ∈ W := fun p hp => hsub p (.tail _ (.tail _ (.tail _ hp)))
        replace m1 := hRW _ m1
        replace m2 := hRW _ m2
        replace m3 := hRW _ m3
        replace H := H.mono hRW
        replace hf := fun k u e => (hf k u e).1.mono hRW
        cases hvs with
        | cons tg tk' hvs' =>
          rename_i rest'
          obtain ⟨sv, hv⟩ := perm_val (hPm.mem_iff.mp (show tg ∈ ss by rw [← hss]; simp))
          have hSc := hf tg sv hv
          obtain ⟨D, hD⟩ : ∃ D, D = f tg := ⟨_, rfl⟩
          rw [← hD] at hSc
          obtain ⟨dt, sp, df, kk⟩ := D
          cases hSc with
          | mk c1 c2 hdf c3 hol' lo' hlg =>
            dsimp only at c2 hdf hlg
            have hkeys := hlg.keys
            cases hlv : valueAt _ tag with
            | some lv =>
              have hls := hlg.get hlv
              have hls2 := hls
              have hok8 : kqdOk 8 (lsDat sp 1) = true := rfl
              have htg := langs_ok (hkeys ▸ key_of_some (by rw [hlv]; rfl))
              cases hls
              k_steps
              (rename Fr _ _ _ _ => F5); (rename News _ _ _ _ => N5)
              rename_i fl5 fvs5 n5 ps5 W5 _ _ hT5 hl5 ho5 hc5
              refine src3_intro (by rfl) F5 N5 hT5 (W := W5) (fun p hp => List.mem_append_left _ hp) hl5 ?_ ?_
              · intro s' ys nw t a b ta tb x hm I' oI C oC D' m₂ h tk E' hC e1 e2 e3 F6 N6 off ne
                clear F3 N3 F5 N5
                have t1 := Heap.lt_size (N6 _ (.head _)).1
                have t2 := Heap.lt_size (N6 _ (.tail _ (.head _))).1
                have t3 := Heap.lt_size (N6 _ (.tail _ (.tail _ (.head _)))).1
                k_steps
                (rename Fr _ _ _ _ => F7); (rename News _ _ _ _ => N7)
                exact compEnd_T F7 N7 off (by first | exact Nat.ne_of_gt t1 | k_ne) (by first | exact Nat.ne_of_gt t2 | k_ne) (by first | exact Nat.ne_of_gt t3 | k_ne) ⟨fun p hp => .tail _ hp, pd_in (.head _)⟩
              · intro g ys nw D' h tk hD5 F6 N6
                clear F3 N3 F5 N5
                have hcv := hc5 tg (by rw [hv]; rfl)
                rw [← hD] at hcv
                have hin := cov_some hcv hkeys hlv
                have hok := H.kok tg (by rw [hv]; rfl)
                k_steps
                refine kqd_notIn (ds := ps5.map pd) (d := pd (tg, tag)) (by k_asm) (.head _) rfl rfl hD5 (fun p hp => .tail _ (List.mem_append_left _ hp)) (pd_in (by k_mem)) (fun _ hp => hp) (pd_ok ho5) ?_ (by (have hcL9 := cLine_is; ktr_room)) ?_
                · exact pd_okk hok htg
                · rw [@decide_eq_true _ (_) hin]
                  k_steps
                  (rename Fr _ _ _ _ => F8); (rename News _ _ _ _ => N8)
                  refine loopS_end (news' := W) F8 N8 (by k_subL) (fun p hp => hoff p hp) hlp ?_ ⟨done ++ [tg], rest', hsub, hvs', by rw [← hss, List.append_assoc]; rfl⟩
                  intro y hy
                  have e1 := contains_ne hy (z := Str.ofString "script_tag") rfl
                  have e2 := contains_ne hy (z := Str.ofString "held") rfl
                  have e3 := contains_ne hy (z := Str.ofString "due") rfl
                  have e4 := contains_ne hy (z := Str.ofString "heard") rfl
                  simp only [if_neg e1, if_neg e2, if_neg e3, if_neg e4, hy, Bool.false_eq_true, if_false]
            | none =>
              cases hdf with
              | none =>
                k_steps
                (rename Fr _ _ _ _ => F8); (rename News _ _ _ _ => N8)
                refine loopS_end (news' := W) F8 N8 (by k_subL) (fun p hp => hoff p hp) hlp ?_ ⟨done ++ [tg], rest', hsub, hvs', by rw [← hss, List.append_assoc]; rfl⟩
                intro y hy
                have e1 := contains_ne hy (z := Str.ofString "script_tag") rfl
                have e2 := contains_ne hy (z := Str.ofString "held") rfl
                have e3 := contains_ne hy (z := Str.ofString "due") rfl
                have e4 := contains_ne hy (z := Str.ofString "heard") rfl
                simp only [if_neg e1, if_neg e2, if_neg e3, if_neg e4, hy, Bool.false_eq_true, if_false]
              | some hls =>
                have hls2 := hls
                have hok8 : kqdOk 8 (lsDat (-1) sp) = true := rfl
                cases hls
                k_steps
                (rename Fr _ _ _ _ => F5); (rename News _ _ _ _ => N5)
                rename_i fl5 fvs5 n5 ps5 W5 _ _ hT5 hl5 ho5 hc5
                refine src3_intro (by rfl) F5 N5 hT5 (W := W5) (fun p hp => List.mem_append_left _ hp) hl5 ?_ ?_
                · intro s' ys nw t a b ta tb x hm I' oI C oC D' m₂ h tk E' hC e1 e2 e3 F6 N6 off ne
                  clear F3 N3 F5 N5
                  have t1 := Heap.lt_size (N6 _ (.head _)).1
                  have t2 := Heap.lt_size (N6 _ (.tail _ (.head _))).1
                  have t3 := Heap.lt_size (N6 _ (.tail _ (.tail _ (.head _)))).1
                  k_steps
                  (rename Fr _ _ _ _ => F7); (rename News _ _ _ _ => N7)
                  exact compEnd_T F7 N7 off (by first | exact Nat.ne_of_gt t1 | k_ne) (by first | exact Nat.ne_of_gt t2 | k_ne) (by first | exact Nat.ne_of_gt t3 | k_ne) ⟨fun p hp => .tail _ hp, pd_in (.head _)⟩
                · intro g ys nw D' h tk hD5 F6 N6
                  clear F3 N3 F5 N5
                  have hcv := hc5 tg (by rw [hv]; rfl)
                  rw [← hD] at hcv
                  have hin := cov_df hcv rfl
                  have hok := H.kok tg (by rw [hv]; rfl)
                  k_steps
                  refine kqd_notIn (ds := ps5.map pd) (d := pd (tg, Str.ofString "dflt")) (by k_asm) (.head _) rfl rfl hD5 (fun p hp => .tail _ (List.mem_append_left _ hp)) (pd_in (by k_mem)) (fun _ hp => hp) (pd_ok ho5) ?_ (by (have hcL9 := cLine_is; ktr_room)) ?_
                  · exact pd_okk hok (by decide +kernel)
                  · rw [@decide_eq_true _ (_) hin]
                    k_steps
                    (rename Fr _ _ _ _ => F8); (rename News _ _ _ _ => N8)
                    refine loopS_end (news' := W) F8 N8 (by k_subL) (fun p hp => hoff p hp) hlp ?_ ⟨done ++ [tg], rest', hsub, hvs', by rw [← hss, List.append_assoc]; rfl⟩
                    intro y hy
                    have e1 := contains_ne hy (z := Str.ofString "script_tag") rfl
                    have e2 := contains_ne hy (z := Str.ofString "held") rfl
                    have e3 := contains_ne hy (z := Str.ofString "due") rfl
                    have e4 := contains_ne hy (z := Str.ofString "heard") rfl
                    simp only [if_neg e1, if_neg e2, if_neg e3, if_neg e4, hy, Bool.false_eq_true, if_false]
      · intro u W h tk hI F3 N3
        obtain ⟨done, rest, hsub, hvs, hss⟩ := hI
        clear F1 N2
        k_steps
        exact hret _ _ _ _ (by k_asm) (news_pick (by assumption) ((pa, p1) :: (qa, p2) :: R) (fun p hp => hsub p (.tail _ hp))) ⟨rfl, p1, p2, hPn, rfl⟩

section
variable {prog : Program} {w : World} {p : Program} {loose : List Str} {mean : ExcName → Option Value} {mg mb : Str → Option Value}
    {dp un : Nat} {gd : Option (List Code)} {cn : Str} {cs : Scope} {a : Addr} {ccd : Value} {cl : List (Str × Addr)} {outer : List Env} {A₀ : Around} {base h₀ : Heap} {L : Addr} {m : Str → Option Value} {s : Shared} {Q E : Value → Shared → Prop}
    {pa qa : Nat} {o1 o2 : Obj} {news : List (Addr × Obj)} {g1 : Obj → List (Addr × Obj)} {g2 : Obj → Obj → List (Addr × Obj)}
theorem pen_mem (U1 : UpdF pa o1 news g1) (U2 : ∀ o, UpdF qa o2 (g1 o) (g2 o)) (hpq : pa ≠ qa) : (pa, o1) ∈ news ∧ (qa, o2) ∈ news := by
  refine ⟨(updF_mem U1).1, ?_⟩
  rcases (updF_mem U1).2 _ _ (updF_mem (U2 o1)).1 with e | e
  · exact absurd (congrArg Prod.fst e) (Ne.symm hpq)
  · exact e.1
abbrev offPen (pa qa : Nat) (news : List (Addr × Obj)) : List (Addr × Obj) := news.filter fun r => decide (r.1 ≠ pa ∧ r.1 ≠ qa)
theorem offPen_led {h : Heap} (N : News h₀ L h news) (U1 : UpdF pa o1 news g1) (U2 : ∀ o, UpdF qa o2 (g1 o) (g2 o)) (hpq : pa ≠ qa) : News h₀ L h ((pa, o1) :: (qa, o2) :: offPen pa qa news) := fun p hp => by
  rcases List.mem_cons.mp hp with rfl | hp
  · exact N _ (pen_mem U1 U2 hpq).1
  rcases List.mem_cons.mp hp with rfl | hp
  · exact N _ (pen_mem U1 U2 hpq).2
  · exact N p (List.mem_filter.mp hp).1
theorem offPen_back {h : Heap} {o1' o2' : Obj} {W : List (Addr × Obj)} (N : News h₀ L h ((pa, o1') :: (qa, o2') :: W)) (hs : ∀ p ∈ offPen pa qa news, p ∈ W) (U1 : UpdF pa o1 news g1) (U2 : ∀ o, UpdF qa o2 (g1 o) (g2 o)) : News h₀ L h (g2 o1' o2') := fun p hp => by
  rcases (updF_mem (U2 o1')).2 _ _ hp with rfl | ⟨h3, h4⟩
  · exact N _ (.tail _ (.head _))
  · rcases (updF_mem U1).2 _ _ h3 with rfl | ⟨h5, h6⟩
    · exact N _ (.head _)
    · exact N _ (.tail _ (.tail _ (hs _ (List.mem_filter.mpr ⟨h5, decide_eq_true ⟨h6, h4⟩⟩))))
theorem con_layout (B : Below A₀ base outer h₀) (F : Fr h₀ L s.heap m) (X : (hd.heap_1 w.params).In h₀) (N : News h₀ L s.heap news) (T : Top p loose mean mg mb h₀) (hk : cs.kind = .function)
    (U1 : UpdF pa o1 news g1) (hP : PenOk qa o1 o2) (U2 : ∀ o, UpdF qa o2 (g1 o) (g2 o)) (hpq : pa ≠ qa) (hd : dp + 40 < 900) (hu : un + 400 < 9000)
    (ret : ∀ y kvs W o1' o2' h' tk', PenOk qa o1' o2' → Fr h₀ L h' m → News h₀ L h' (W ++ g2 o1' o2') → (∀ p ∈ W, p.1 ≠ pa) → (∀ p ∈ W, p.1 ≠ qa) → LayIn prog w W (.ref y) kvs → Q (.ref y) { s with heap := h', toks := tk' }) :
    wpAny (model prog w) (ktrTop dp un gd cn cs L a ccd cl outer) (call (.ref 171) [.ref pa]) Q E s :=
  con_use B F X (offPen_led N U1 U2 hpq) T hk (layout_c hP hpq (fun r hr => (of_decide_eq_true (List.mem_filter.mp hr).2).1) (fun r hr => (of_decide_eq_true (List.mem_filter.mp hr).2).2)) hd hu fun r news' h' tk' F' N' hr => by
    obtain ⟨y, kvs, W, o1', o2', rfl, rfl, hs, w1, w2, hP', HL⟩ := hr
    refine ret y kvs W o1' o2' h' tk' hP' F' (fun q hq => ?_) w1 w2 HL
    rcases List.mem_append.mp hq with hq | hq
    · exact N' _ (.tail _ (.tail _ hq))
    · exact offPen_back N' hs U1 U2 q hq
theorem con_lang {v : Value} {kvs : List (Str × Value)} {W : List (Addr × Obj)} (B : Below A₀ base outer h₀) (F : Fr h₀ L s.heap m) (X : (hd.heap_1 w.params).In h₀) (N : News h₀ L s.heap news) (T : Top p loose mean mg mb h₀) (hk : cs.kind = .function)
    (U1 : UpdF pa o1 news g1) (hP : PenOk qa o1 o2) (U2 : ∀ o, UpdF qa o2 (g1 o) (g2 o)) (hpq : pa ≠ qa) (H : LayIn prog w W v kvs) (hs : ∀ p ∈ W, p ∈ news) (w1 : ∀ p ∈ W, p.1 ≠ pa) (w2 : ∀ p ∈ W, p.1 ≠ qa) (hd : dp + 40 < 900) (hu : un + 400 < 9000)
    (ret : ∀ o1' o2' h' tk', PenOk qa o1' o2' → Fr h₀ L h' m → News h₀ L h' (g2 o1' o2') → Q (.bool true) { s with heap := h', toks := tk' }) :
    wpAny (model prog w) (ktrTop dp un gd cn cs L a ccd cl outer) (call (.ref 190) [.ref pa, v]) Q E s :=
  con_use B F X (offPen_led N U1 U2 hpq) T hk (lang_c hP hpq (fun r hr => (of_decide_eq_true (List.mem_filter.mp hr).2).1) (fun r hr => (of_decide_eq_true (List.mem_filter.mp hr).2).2) (H.mono fun q hq => List.mem_filter.mpr ⟨hs q hq, decide_eq_true ⟨w1 q hq, w2 q hq⟩⟩)) hd hu fun r news' h' tk' F' N' hr => by
    obtain ⟨rfl, o1', o2', hP', rfl⟩ := hr
    exact ret o1' o2' h' tk' hP' F' (offPen_back N' (fun _ h => h) U1 U2)
theorem con_chosen {v : Value} {kvs : List (Str × Value)} {lt : Addr} {tvs : List Value} {ts : List Str} {nl : Nat} {W : List (Addr × Obj)} (B : Below A₀ base outer h₀) (F : Fr h₀ L s.heap m) (X : (hd.heap_1 w.params).In h₀) (N : News h₀ L s.heap news) (T : Top p loose mean mg mb h₀) (hk : cs.kind = .function)
    (H : LayIn prog w W v kvs) (hs : ∀ p ∈ W, p ∈ news) (hl : (lt, listOf (List.toArray tvs) nl) ∈ news) (hS : StrsAre tvs ts) (hz : tvs.length ≤ 20) (hd : dp + 40 < 900) (hu : un + 400 < 9000)
    (ret : ∀ h' tk', Fr h₀ L h' m → News h₀ L h' news → Q (.bool true) { s with heap := h', toks := tk' }) :
    wpAny (model prog w) (ktrTop dp un gd cn cs L a ccd cl outer) (call (.ref 185) [v, .ref lt]) Q E s :=
  con_use B F X N T hk (chosen_c (H.mono hs) hl hS hz) hd hu fun r news' h' tk' F' N' hr => by
    obtain ⟨rfl, rfl⟩ := hr
    exact ret h' tk' F' N'
end

local macro_rules | `(tactic| walk_at "call ref") => `(tactic| (ktd_call (Value.ref 171) [Value.ref _]; k_search con_layout; intro y' kvs' W' o1' o2' h' tk' hP' F' N' w1' w2' hL'; (try dsimp only at N'); (try k_sweep)))
local macro_rules | `(tactic| walk_at "call ref") => `(tactic| (ktd_call (Value.ref 190) [Value.ref _, _]; k_search con_lang; (case w1 => assumption); (case w2 => assumption); intro o1' o2' h' tk' hP' F' N'; (try dsimp only at N'); (try k_sweep)))
local macro_rules | `(tactic| walk_at "call ref") => `(tactic| (ktd_call (Value.ref 185) [_, Value.ref _]; k_search con_chosen; intro h' tk' F' N'; (try k_sweep); (try dsimp only); (try k_fold)))

def notCell (p : Addr × Obj) : Bool := match p.2.data with
  | .cell _ => false
  | _ => true
theorem mem_nc {R : List (Addr × Obj)} {p : Addr × Obj} (h : p ∈ R) (e : notCell p = true) : p ∈ R.filter notCell := List.mem_filter.mpr ⟨h, e⟩
theorem nc_dict {prog : Program} {w : World} {d : Addr} {o : Obj} {kvs : List (Str × Value)} (h : o.IsDictOf (PySem.strKind prog w) kvs) : notCell (d, o) = true := by
  obtain ⟨es, ep, _, e, _⟩ := h
  simp only [notCell, e]
theorem LsIn.nc {R : List (Addr × Obj)} {v : Value} {a b : Int} (h : LsIn R v a b) : LsIn (R.filter notCell) v a b := by
  cases h with
  | mk a b c => exact .mk (mem_nc a rfl) (mem_nc b rfl) (mem_nc c rfl)
theorem DfIn.nc {R : List (Addr × Obj)} {v : Value} {sp : Int} {b : Bool} (h : DfIn R v sp b) : DfIn (R.filter notCell) v sp b := by
  cases h with
  | none => exact .none
  | some a => exact .some a.nc
theorem LgIn.nc {R : List (Addr × Obj)} {l : List (Str × Value)} {sp : Int} {k : Nat} (h : LgIn R l sp k) : LgIn (R.filter notCell) l sp k := by
  cases h with
  | two a b => exact .two a.nc b.nc
  | one a => exact .one a.nc
  | zero => exact .zero
theorem ScIn.nc {prog : Program} {w : World} {R : List (Addr × Obj)} {v : Value} {D : SD} (h : ScIn prog w R v D) : ScIn prog w (R.filter notCell) v D := by
  cases h with
  | mk a b c d e f g => exact .mk (mem_nc a rfl) (mem_nc b rfl) c.nc (mem_nc d (nc_dict e)) e f g.nc
theorem LyIn.nc {prog : Program} {w : World} {R : List (Addr × Obj)} {v : Value} {kvs : List (Str × Value)} (h : LyIn prog w R v kvs) : LyIn prog w (R.filter notCell) v kvs := by
  cases h with
  | mk a b c d e => exact .mk (mem_nc a rfl) (mem_nc b rfl) (mem_nc c (nc_dict d)) d e
theorem LayIn.nc {prog : Program} {w : World} {R : List (Addr × Obj)} {v : Value} {kvs : List (Str × Value)} (h : LayIn prog w R v kvs) : LayIn prog w (R.filter notCell) v kvs :=
  ⟨h.ly.nc, fun k u e => let ⟨D, a, b⟩ := h.sc k u e; ⟨D, a.nc, b⟩, h.len, h.no1, h.no2, h.kok⟩
theorem off_cell {h₀ h : Heap} {L c : Addr} {o : Obj} {x : Option Value} {W l : List (Addr × Obj)} (N : News h₀ L h (W ++ l)) (hm : (c, o) ∈ l) (hd : o.data = .cell x) : ∀ p ∈ W.filter notCell, p.1 ≠ c := by
  intro p hp e
  obtain ⟨h1, h2⟩ := List.mem_filter.mp hp
  have a := (N p (List.mem_append_left _ h1)).1
  have b := (N (c, o) (List.mem_append_right _ hm)).1
  rw [e] at a
  have ab : some p.2 = some o := a.symm.trans b
  injection ab with ab
  simp only [notCell, ab, hd] at h2
  cases h2
theorem UpdF.append {d : Addr} {o : Obj} {l : List (Addr × Obj)} {g : Obj → List (Addr × Obj)} : ∀ {W : List (Addr × Obj)}, (∀ p ∈ W, p.1 ≠ d) → UpdF d o l g → UpdF d o (W ++ l) (fun o' => W ++ g o')
  | [], _, h => h
  | _ :: _, hw, h => UpdF.tail (hw _ (.head _)) (UpdF.append (fun p hp => hw p (.tail _ hp)) h)
section
variable {prog : Program} {w : World} {p : Program} {loose : List Str} {mean : ExcName → Option Value} {mg mb : Str → Option Value}
    {dp un : Nat} {gd : Option (List Code)} {cn : Str} {cs : Scope} {a : Addr} {ccd : Value} {cl : List (Str × Addr)} {outer : List Env} {A₀ : Around} {base h₀ : Heap} {L : Addr} {m : Str → Option Value} {s : Shared} {Q E : Value → Shared → Prop}
    {pa qa c1 c2 : Nat} {o1 o2 oc1 oc2 : Obj} {x1 x2 : Option Value}
/-- the layout of the law, beside two cells -/
theorem con_layout2 (B : Below A₀ base outer h₀) (F : Fr h₀ L s.heap m) (X : (hd.heap_1 w.params).In h₀) (N : News h₀ L s.heap [(pa, o1), (qa, o2), (c1, oc1), (c2, oc2)]) (T : Top p loose mean mg mb h₀) (hk : cs.kind = .function)
    (hP : PenOk qa o1 o2) (hpq : pa ≠ qa) (hp1 : c1 ≠ pa) (hp2 : c2 ≠ pa) (hq1 : c1 ≠ qa) (hq2 : c2 ≠ qa) (hd1 : oc1.data = .cell x1) (hd2 : oc2.data = .cell x2) (hd : dp + 40 < 900) (hu : un + 400 < 9000)
    (ret : ∀ y kvs W o1' o2' h' tk', PenOk qa o1' o2' → Fr h₀ L h' m → News h₀ L h' (W ++ [(pa, o1'), (qa, o2'), (c1, oc1), (c2, oc2)]) → (∀ p ∈ W, p.1 ≠ pa) → (∀ p ∈ W, p.1 ≠ qa) → (∀ p ∈ W, p.1 ≠ c1) → (∀ p ∈ W, p.1 ≠ c2) → LayIn prog w W (.ref y) kvs → Q (.ref y) { s with heap := h', toks := tk' }) :
    wpAny (model prog w) (ktrTop dp un gd cn cs L a ccd cl outer) (call (.ref 171) [.ref pa]) Q E s :=
  con_layout B F X N T hk (g1 := fun o => [(pa, o), (qa, o2), (c1, oc1), (c2, oc2)]) (g2 := fun o o' => [(pa, o), (qa, o'), (c1, oc1), (c2, oc2)])
    (UpdF.head (by intro p hp; simp only [List.mem_cons, List.not_mem_nil, or_false] at hp; rcases hp with rfl | rfl | rfl; exact Ne.symm hpq; exact hp1; exact hp2)) hP
    (fun o => UpdF.tail hpq (UpdF.head (by intro p hp; simp only [List.mem_cons, List.not_mem_nil, or_false] at hp; rcases hp with rfl | rfl; exact hq1; exact hq2))) hpq hd hu
    fun y kvs W o1' o2' h' tk' hP' F' N' w1 w2 HL => ret y kvs (W.filter notCell) o1' o2' h' tk' hP' F' (news_drop N' fun p hp => (List.mem_append.mp hp).elim (fun h => List.mem_append_left _ (List.mem_filter.mp h).1) (fun h => List.mem_append_right _ h))
      (fun p hp => w1 p (List.mem_filter.mp hp).1) (fun p hp => w2 p (List.mem_filter.mp hp).1) (off_cell N' (by simp) hd1) (off_cell N' (by simp) hd2) HL.nc
end

theorem told_group {h₀ h : Heap} {L D B : Addr} {oD oB : Obj} {tl W P : List (Addr × Obj)} (N : News h₀ L h ((D, oD) :: (tl ++ ((B, oB) :: (W ++ P))))) (off : LCg.Off1 D (tl ++ ((B, oB) :: (W ++ P)))) (Ab : Abv tl ((B, oB) :: (W ++ P))) (hB : ∀ q ∈ P, q.1 ≠ B) (hW : ∀ p ∈ W, ∀ q ∈ P, p.1 ≠ q.1) :
    ∃ X, News h₀ L h (X ++ P) ∧ (∀ p ∈ X, ∀ q ∈ P, p.1 ≠ q.1) ∧ (∀ p ∈ W, p ∈ X) ∧ (D, oD) ∈ X ∧ ∀ p ∈ tl, p ∈ X := by
  have hp0 : ∀ {p}, p ∈ P → p ∈ tl ++ ((B, oB) :: (W ++ P)) := fun hp => List.mem_append_right _ (.tail _ (List.mem_append_right _ hp))
  refine ⟨(D, oD) :: (tl ++ (B, oB) :: W), fun p hp => N p ?_, fun p hp q hq => ?_, fun p hp => .tail _ (List.mem_append_right _ (.tail _ hp)), .head _, fun p hp => .tail _ (List.mem_append_left _ hp)⟩
  · simpa [List.append_assoc] using hp
  · rcases List.mem_cons.mp hp with rfl | hp
    · exact Ne.symm (off1_D off q (hp0 hq))
    rcases List.mem_append.mp hp with hp | hp
    · exact Ne.symm (Ab p hp q (.tail _ (List.mem_append_right _ hq)))
    rcases List.mem_cons.mp hp with rfl | hp
    · exact Ne.symm (hB q hq)
    · exact hW p hp q hq
theorem sub_mid {a : Addr × Obj} {W P nw : List (Addr × Obj)} (h : ∀ p ∈ a :: (W ++ P), p ∈ nw) : ∀ p ∈ W, p ∈ nw := fun p hp => h p (.tail _ (List.mem_append_left _ hp))
theorem sub_cell {a q1 q2 c1 c2 : Addr × Obj} {W nw : List (Addr × Obj)} (h : ∀ p ∈ a :: (W ++ [q1, q2, c1, c2]), p ∈ nw) : c1 ∈ nw ∧ c2 ∈ nw := ⟨h _ (by simp), h _ (by simp)⟩
theorem told_group4 {prog : Program} {w : World} {h₀ h : Heap} {L D B c1 c2 : Addr} {pa qa : Nat} {oD oB o1 o2 oc1 oc2 : Obj} {tl W : List (Addr × Obj)} {v : Value} {kvs : List (Str × Value)} {ys : List Value} {ds : List Dat}
    (N : News h₀ L h ((D, oD) :: (tl ++ ((B, oB) :: (W ++ [(pa, o1), (qa, o2), (c1, oc1), (c2, oc2)]))))) (off : LCg.Off1 D (tl ++ ((B, oB) :: (W ++ [(pa, o1), (qa, o2), (c1, oc1), (c2, oc2)])))) (Ab : Abv tl ((B, oB) :: (W ++ [(pa, o1), (qa, o2), (c1, oc1), (c2, oc2)])))
    (hB : ∀ q ∈ W ++ [(pa, o1), (qa, o2), (c1, oc1), (c2, oc2)], q.1 < B) (w1 : ∀ p ∈ W, p.1 ≠ pa) (w2 : ∀ p ∈ W, p.1 ≠ qa) (w3 : ∀ p ∈ W, p.1 ≠ c1) (w4 : ∀ p ∈ W, p.1 ≠ c2) (z1 : @Ne Nat c1 pa) (z2 : @Ne Nat c2 pa) (z3 : @Ne Nat c1 qa) (z4 : @Ne Nat c2 qa) (hL : LayIn prog w W v kvs) (hD : DatAll tl ys ds) :
    ∃ X, News h₀ L h ((pa, o1) :: (qa, o2) :: X) ∧ (∀ p ∈ X, p.1 ≠ pa) ∧ (∀ p ∈ X, p.1 ≠ qa) ∧ LayIn prog w X v kvs ∧ (D, oD) ∈ X ∧ DatAll X ys ds ∧ (c1, oc1) ∈ X ∧ (c2, oc2) ∈ X ∧ ∀ p ∈ W, p ∈ X := by
  obtain ⟨X, N', hX, hW, hDX, ht⟩ := told_group N off Ab (fun q hq => Nat.ne_of_lt (hB q (List.mem_append_right _ hq))) (fun p hp q hq => by
    simp only [List.mem_cons, List.not_mem_nil, or_false] at hq
    rcases hq with rfl | rfl | rfl | rfl
    · exact w1 p hp
    · exact w2 p hp
    · exact w3 p hp
    · exact w4 p hp)
  have hs : ∀ p ∈ X, p ∈ (c1, oc1) :: (c2, oc2) :: X := fun p hp => .tail _ (.tail _ hp)
  refine ⟨(c1, oc1) :: (c2, oc2) :: X, news_drop N' fun p hp => List.mem_append.mpr (List.mem_append.mp (show p ∈ [(pa, o1), (qa, o2), (c1, oc1), (c2, oc2)] ++ X from hp)).symm, fun p hp => ?_, fun p hp => ?_, hL.mono fun p hp => hs p (hW p hp), hs _ hDX, hD.mono fun p hp => hs p (ht p hp), .head _, .tail _ (.head _), fun p hp => hs p (hW p hp)⟩
  · rcases List.mem_cons.mp hp with rfl | hp
    · exact z1
    rcases List.mem_cons.mp hp with rfl | hp
    · exact z2
    · exact hX p hp _ (.head _)
  · rcases List.mem_cons.mp hp with rfl | hp
    · exact z3
    rcases List.mem_cons.mp hp with rfl | hp
    · exact z4
    · exact hX p hp _ (.tail _ (.head _))
theorem told_eq {prog : Program} {w : World} {A : Around} {E : Value → Shared → Prop} {s : Shared} {h₀ : Heap} {L a b : Addr} {news n1 n2 : List (Addr × Obj)} {xs ys : List Value} {ka kb : Nat} {ss ss2 : List Str} {kvs : List (Str × Value)} {Q : Value → Shared → Prop} (g : Str → Dat) (N : News h₀ L s.heap news)
    (ma : (a, listOf (List.toArray xs) ka) ∈ news) (Da : DatAll n1 xs (ss.map g)) (sa : ∀ p ∈ n1, p ∈ news) (mb : (b, listOf (List.toArray ys) kb) ∈ news) (Db : DatAll n2 ys (ss2.map g)) (sb : ∀ p ∈ n2, p ∈ news)
    (hP : ss.Perm (kvs.map (·.1))) (hO : sortedS ss = true) (hP2 : ss2.Perm (kvs.map (·.1))) (hO2 : sortedS ss2 = true) (ok : ∀ k u, valueAt kvs k = some u → kqdOk 8 (g k) = true) (hu : A.units + 64 < cLine) (h : Q (.bool true) s) :
    wpAny (model prog w) A (compareOp .Eq (.ref a) (.ref b)) Q E s := by
  have e : ss = ss2 := sortedS_uniq (hP.trans hP2.symm) hO hO2
  subst e
  have ok' : ∀ d ∈ ss.map g, kqdOk 8 d = true := fun d hd => by
    obtain ⟨k, hk, rfl⟩ := List.mem_map.mp hd
    obtain ⟨u, hv⟩ := perm_val (hP.mem_iff.mp hk)
    exact ok k u hv
  refine kqd_eq N ma rfl rfl Da sa mb rfl rfl Db sb ok' ok' hu ?_
  rw [@decide_eq_true _ (_) rfl]; exact h

section
open LCg
theorem strs_mem {vs : List Value} {ss : List Str} {v : Value} (h : StrsAre vs ss) (hv : v ∈ vs) : ∃ k t, v = .str k t := by
  obtain ⟨i, hi⟩ := List.getElem?_of_mem hv
  obtain ⟨k, t, e, _⟩ := strs_get h hi
  exact ⟨k, t, e⟩
/-- how an element that is picked ends -/
def PickEnd (h₀ : Heap) (L : Addr) (m : Str → Option Value) (qa : Nat) (l : Obj → Obj → List (Addr × Obj)) (s₁ : Shared) (y : Value) (s₂ : Shared) : Prop :=
  ∃ k t o1 o2 h' tk', y = .str k t ∧ s₂ = { s₁ with heap := h', toks := tk' } ∧ PenOk qa o1 o2 ∧ Fr h₀ L h' m ∧ News h₀ L h' (l o1 o2)
variable {prog : Program} {w : World} {A : Around} {E : Value → Shared → Prop} {s : Shared} {h₀ : Heap} {L : Addr} {m : Str → Option Value} {env : Env}
theorem tags_rest {elt : Expr} {x : Str} {scope : Scope} {cl : List (Str × Addr)} {P : Nat → Value → Prop} {Fin : List Value → List (Addr × Obj) → Prop} {n : Nat} {pa qa : Nat} {o1 o2 : Obj} {R : List (Addr × Obj)} (hP : PenOk qa o1 o2)
    (turn : ∀ I oI C oC D m₂ h tk ys o1 o2 (E' : Value → Shared → Prop), PenOk qa o1 o2 → NsObj oC m₂ → Fr h₀ L h m → News h₀ L h ((I, oI) :: (C, oC) :: (D, lst ys) :: (pa, o1) :: (qa, o2) :: R) → Off3 I C D ((pa, o1) :: (qa, o2) :: R) → ((@Ne Nat I C) ∧ (@Ne Nat I D) ∧ (@Ne Nat C D)) →
      wpAny (model prog w) A (eval elt (compEnvC scope cl C env)) (PickEnd h₀ L m qa (fun o1' o2' => (I, oI) :: (C, oC) :: (D, lst ys) :: (pa, o1') :: (qa, o2') :: R) { s with heap := h, toks := tk }) E' { s with heap := h, toks := tk })
    (fin : ∀ ys ts o1 o2, StrsAre ys ts → ys.length = n → PenOk qa o1 o2 → Fin ys ((pa, o1) :: (qa, o2) :: R)) :
    CompRest prog w A h₀ L m env elt x scope cl s (fun _ => True) P Fin n 0 [] ((pa, o1) :: (qa, o2) :: R) := by
  refine comp_inv (fun i ys nw => ∃ o1 o2 ts, nw = (pa, o1) :: (qa, o2) :: R ∧ PenOk qa o1 o2 ∧ StrsAre ys ts ∧ ys.length = i) ⟨o1, o2, [], rfl, hP, .nil, rfl⟩ ?_ ?_
  · rintro i ys nw v I oI C oC D m₂ h tk E' hi ⟨p1, p2, ts, rfl, hP1, hS, hl⟩ hP0 hC hx F N off ne
    refine wpAny_mono (turn I oI C oC D m₂ h tk ys p1 p2 E' hP1 hC F N off ne) (fun y s₂ hq => ?_) fun _ _ e => e
    obtain ⟨k, t, q1, q2, h', tk', rfl, rfl, hP2, F', N'⟩ := hq
    refine CompEnd.intro F' N' ((pa, q1) :: (qa, q2) :: R) (fun p hp => hp) ⟨off.1, off.2.1, off.2.2⟩ trivial ⟨q1, q2, ts ++ [k], rfl, hP2, StrsAre.app hS (.cons _ _ .nil), ?_⟩
    rw [List.length_append, hl]; rfl
  · rintro ys nw ⟨p1, p2, ts, rfl, hP1, hS, hl⟩
    exact fin ys ts p1 p2 hS hl hP1
end

/-- the Indic scripts: the elder tag, the newer one -/
def inIndic (tag nw : Str) : Prop :=
  (tag = Str.ofString "beng" ∧ nw = Str.ofString "bng2") ∨ (tag = Str.ofString "deva" ∧ nw = Str.ofString "dev2") ∨ (tag = Str.ofString "gujr" ∧ nw = Str.ofString "gjr2") ∨ (tag = Str.ofString "guru" ∧ nw = Str.ofString "gur2") ∨ (tag = Str.ofString "knda" ∧ nw = Str.ofString "knd2") ∨
  (tag = Str.ofString "mlym" ∧ nw = Str.ofString "mlm2") ∨ (tag = Str.ofString "mymr" ∧ nw = Str.ofString "mym2") ∨ (tag = Str.ofString "orya" ∧ nw = Str.ofString "ory2") ∨ (tag = Str.ofString "taml" ∧ nw = Str.ofString "tml2") ∨ (tag = Str.ofString "telu" ∧ nw = Str.ofString "tel2")
theorem second_c {prog : Program} {w : World} {p : Program} {loose : List Str} {mean : ExcName → Option Value} {mg mb : Str → Option Value} {R : List (Addr × Obj)} :
   Con prog w (hd.heap_1 w.params) p loose mean mg mb 1 22 [] R fun r news' => ∃ d o kvs, r = .ref d ∧ news' = (d, o) :: R ∧ (∀ q ∈ R, q.1 < d) ∧ (d == sysModules) = false ∧ o.IsDictOf (PySem.strKind prog w) kvs ∧
     (∀ tag nw, inIndic tag nw → ∃ t, valueAt kvs tag = some (.str nw t)) ∧ valueAt kvs (Str.ofString "arab") = none := by
  intro dp un gd cn cs a ccd cl outer A₀ base h₀ L m s Q E B F X N T hk hdp hun hret
  refine wpAny_call ?_
  k_dflt ktr_enter
  k_steps
  (rename Fr h₀ _ _ _ => F1); (rename News h₀ _ _ _ => N1)
  rename Obj.IsDictOf _ _ _ => hd1
  rename _ = false => lo1
  rename ∀ q ∈ R, q.1 < _ => l1
  refine hret _ _ _ _ F1 N1 ⟨_, _, _, rfl, rfl, l1, lo1, hd1, fun tag nw h => ?_, rfl⟩
  unfold inIndic at h
  rcases h with ⟨rfl, rfl⟩ | ⟨rfl, rfl⟩ | ⟨rfl, rfl⟩ | ⟨rfl, rfl⟩ | ⟨rfl, rfl⟩ | ⟨rfl, rfl⟩ | ⟨rfl, rfl⟩ | ⟨rfl, rfl⟩ | ⟨rfl, rfl⟩ | ⟨rfl, rfl⟩ <;> exact ⟨_, rfl⟩
section
variable {prog : Program} {w : World} {p : Program} {loose : List Str} {mean : ExcName → Option Value} {mg mb : Str → Option Value}
    {dp un : Nat} {gd : Option (List Code)} {cn : Str} {cs : Scope} {a : Addr} {ccd : Value} {cl : List (Str × Addr)} {outer : List Env} {A₀ : Around} {base h₀ : Heap} {L : Addr} {m : Str → Option Value} {s : Shared} {Q E : Value → Shared → Prop} {news : List (Addr × Obj)}
theorem con_second {tag : Str} {r : Option Str} (hr : r = none ∧ tag = Str.ofString "arab" ∨ ∃ nw, r = some nw ∧ inIndic tag nw) (B : Below A₀ base outer h₀) (F : Fr h₀ L s.heap m) (X : (hd.heap_1 w.params).In h₀) (N : News h₀ L s.heap news) (T : Top p loose mean mg mb h₀) (hk : cs.kind = .function) (hd : dp + 10 < 900) (hu : un + 100 < 9000)
    (ret : ∀ d o kvs t h' tk', (d == sysModules) = false → o.IsDictOf (PySem.strKind prog w) kvs → valueAt kvs tag = r.map (.str · t) → Fr h₀ L h' m → News h₀ L h' ((d, o) :: news) → (∀ q ∈ news, q.1 < d) → Q (.ref d) { s with heap := h', toks := tk' }) :
    wpAny (model prog w) (ktrTop dp un gd cn cs L a ccd cl outer) (call (.ref 22) []) Q E s :=
  con_use B F X N T hk second_c hd hu fun v news' h' tk' F' N' hv => by
    obtain ⟨d, o, kvs, rfl, rfl, l1, lo, hdi, hI, hA⟩ := hv
    rcases hr with ⟨rfl, rfl⟩ | ⟨nw, rfl, hi⟩
    · exact ret d o kvs 0 h' tk' lo hdi hA F' N' l1
    · obtain ⟨t, ht⟩ := hI tag nw hi
      exact ret d o kvs t h' tk' lo hdi ht F' N' l1
end
section
local macro_rules | `(tactic| walk_at "call ref") => `(tactic| (k_here; (try dsimp only [List.append_nil, List.nil_append]); (with_reducible show wpAny _ _ (call (Value.ref 22) []) _ _ _); k_dflt (refine' con_second ?kr ?kB ?kF ?kX ?kN ?kT ?kK ?kd ?ku ?_; (case kr => assumption); (case kB => k_asm); (case kF => k_asm); (case kX => k_asm); (case kN => k_asm); (case kT => k_asm); (case kK => first | exact rfl | assumption); (case kd => ktr_room); (case ku => ktr_room)); intro d' o' kvs' t' h' tk' lo' hd' e' F' N' l1; (try dsimp only [Option.map] at e'); (try k_lt l1); (try k_sweep)))
local macro_rules | `(tactic| walk_at "call builtin:dict.get") => `(tactic| (k_here; (with_reducible show wpAny _ _ (call (Value.builtin "dict.get") [Value.ref _, Value.str _ _]) _ _ _); k_dflt (refine' kdg_get1 (knd := PySem.strKind _ _) ?kN ?km ?kd ?kl (strKind_is _ _ _ _) _ ?kv ?_; (case kN => k_asm); (case km => k_mem); (case kd => assumption); (case kl => assumption); (case kv => assumption)); (try dsimp only [Option.getD])))
theorem stags_arab {prog : Program} {w : World} {p : Program} {loose : List Str} {mean : ExcName → Option Value} {mg mb : Str → Option Value} {R : List (Addr × Obj)} {tk : Tok} :
   Con prog w (hd.heap_1 w.params) p loose mean mg mb 2 29 [.str (Str.ofString "arab") tk] R fun r news' => ∃ l t n, r = .ref l ∧ news' = (l, listOf (List.toArray [.str (Str.ofString "arab") t]) n) :: R ∧ (∀ q ∈ R, q.1 < l) := by
  intro dp un gd cn cs a ccd cl outer A₀ base h₀ L m s Q E B F X N T hk hdp hun hret
  have hr : (none : Option Str) = none ∧ Str.ofString "arab" = Str.ofString "arab" ∨ ∃ nw, (none : Option Str) = some nw ∧ inIndic (Str.ofString "arab") nw := .inl ⟨rfl, rfl⟩
  refine wpAny_call ?_
  k_dflt ktr_enter
  k_steps
  (rename Fr h₀ _ _ _ => F1); (rename News h₀ _ _ _ => N1)
  rename _ ∧ AllLt _ _ => l1
  exact hret _ _ _ _ F1 (news_drop N1 (fun q hq => (List.mem_cons.mp hq).elim (fun e => e ▸ .head _) (fun h => .tail _ (.tail _ h)))) ⟨_, _, _, rfl, rfl, penLt l1.2⟩
theorem stags_c {prog : Program} {w : World} {p : Program} {loose : List Str} {mean : ExcName → Option Value} {mg mb : Str → Option Value} {R : List (Addr × Obj)} {tag nw : Str} {tk : Tok} (hm : inIndic tag nw) :
   Con prog w (hd.heap_1 w.params) p loose mean mg mb 2 29 [.str tag tk] R fun r news' => ∃ l t t' n, r = .ref l ∧ news' = (l, listOf (List.toArray [.str nw t, .str tag t']) n) :: R ∧ (∀ q ∈ R, q.1 < l) := by
  intro dp un gd cn cs a ccd cl outer A₀ base h₀ L m s Q E B F X N T hk hdp hun hret
  have hr : some nw = none ∧ tag = Str.ofString "arab" ∨ ∃ nw', some nw = some nw' ∧ inIndic tag nw' := .inr ⟨nw, rfl, hm⟩
  refine wpAny_call ?_
  k_dflt ktr_enter
  k_steps
  (rename Fr h₀ _ _ _ => F1); (rename News h₀ _ _ _ => N1)
  rename _ ∧ AllLt _ _ => l1
  exact hret _ _ _ _ F1 (news_drop N1 (fun q hq => (List.mem_cons.mp hq).elim (fun e => e ▸ .head _) (fun h => .tail _ (.tail _ h)))) ⟨_, _, _, _, rfl, rfl, penLt l1.2⟩
end
theorem deva_in : inIndic (Str.ofString "deva") (Str.ofString "dev2") := .inr (.inl ⟨rfl, rfl⟩)
section
variable {prog : Program} {w : World} {p : Program} {loose : List Str} {mean : ExcName → Option Value} {mg mb : Str → Option Value}
    {dp un : Nat} {gd : Option (List Code)} {cn : Str} {cs : Scope} {a : Addr} {ccd : Value} {cl : List (Str × Addr)} {outer : List Env} {A₀ : Around} {base h₀ : Heap} {L : Addr} {m : Str → Option Value} {s : Shared} {Q E : Value → Shared → Prop} {news : List (Addr × Obj)} {tk : Tok}
theorem con_arab (B : Below A₀ base outer h₀) (F : Fr h₀ L s.heap m) (X : (hd.heap_1 w.params).In h₀) (N : News h₀ L s.heap news) (T : Top p loose mean mg mb h₀) (hk : cs.kind = .function) (hd : dp + 20 < 900) (hu : un + 200 < 9000)
    (ret : ∀ l t n h' tk', Fr h₀ L h' m → News h₀ L h' ((l, listOf (List.toArray [.str (Str.ofString "arab") t]) n) :: news) → (∀ q ∈ news, q.1 < l) → Q (.ref l) { s with heap := h', toks := tk' }) :
    wpAny (model prog w) (ktrTop dp un gd cn cs L a ccd cl outer) (call (.ref 29) [.str (Str.ofString "arab") tk]) Q E s :=
  con_use B F X N T hk stags_arab hd hu fun r news' h' tk' F' N' hr => by
    obtain ⟨l, t, n, rfl, rfl, h1⟩ := hr
    exact ret l t n h' tk' F' N' h1
theorem con_stags {tag nw : Str} (B : Below A₀ base outer h₀) (F : Fr h₀ L s.heap m) (X : (hd.heap_1 w.params).In h₀) (N : News h₀ L s.heap news) (T : Top p loose mean mg mb h₀) (hk : cs.kind = .function) (hm : inIndic tag nw) (hd : dp + 20 < 900) (hu : un + 200 < 9000)
    (ret : ∀ l t t' n h' tk', Fr h₀ L h' m → News h₀ L h' ((l, listOf (List.toArray [.str nw t, .str tag t']) n) :: news) → (∀ q ∈ news, q.1 < l) → Q (.ref l) { s with heap := h', toks := tk' }) :
    wpAny (model prog w) (ktrTop dp un gd cn cs L a ccd cl outer) (call (.ref 29) [.str tag tk]) Q E s :=
  con_use B F X N T hk (stags_c hm) hd hu fun r news' h' tk' F' N' hr => by
    obtain ⟨l, t, t', n, rfl, rfl, h1⟩ := hr
    exact ret l t t' n h' tk' F' N' h1
end

/-- the nine that the law draws -/
def inNine (tag nw : Str) : Prop :=
  (tag = Str.ofString "beng" ∧ nw = Str.ofString "bng2") ∨ (tag = Str.ofString "gujr" ∧ nw = Str.ofString "gjr2") ∨ (tag = Str.ofString "guru" ∧ nw = Str.ofString "gur2") ∨ (tag = Str.ofString "knda" ∧ nw = Str.ofString "knd2") ∨
  (tag = Str.ofString "mlym" ∧ nw = Str.ofString "mlm2") ∨ (tag = Str.ofString "mymr" ∧ nw = Str.ofString "mym2") ∨ (tag = Str.ofString "orya" ∧ nw = Str.ofString "ory2") ∨ (tag = Str.ofString "taml" ∧ nw = Str.ofString "tml2") ∨ (tag = Str.ofString "telu" ∧ nw = Str.ofString "tel2")
theorem inNine.indic {tag nw : Str} (h : inNine tag nw) : inIndic tag nw := by
  unfold inNine at h
  unfold inIndic
  rcases h with ⟨rfl, rfl⟩ | ⟨rfl, rfl⟩ | ⟨rfl, rfl⟩ | ⟨rfl, rfl⟩ | ⟨rfl, rfl⟩ | ⟨rfl, rfl⟩ | ⟨rfl, rfl⟩ | ⟨rfl, rfl⟩ | ⟨rfl, rfl⟩ <;> simp only [and_self, true_or, or_true]
theorem inNine.facts {tag nw : Str} (h : inNine tag nw) : tag ≠ nw ∧ PyData.strOk tag = true ∧ PyData.strOk nw = true := by
  unfold inNine at h
  rcases h with ⟨rfl, rfl⟩ | ⟨rfl, rfl⟩ | ⟨rfl, rfl⟩ | ⟨rfl, rfl⟩ | ⟨rfl, rfl⟩ | ⟨rfl, rfl⟩ | ⟨rfl, rfl⟩ | ⟨rfl, rfl⟩ | ⟨rfl, rfl⟩ <;> decide +kernel
theorem elder_of {v : Value} {t1 t2 t3 t4 t5 t6 t7 t8 t9 : Tok}
    (h : v ∈ [Value.str (Str.ofString "beng") t1, .str (Str.ofString "gujr") t2, .str (Str.ofString "guru") t3, .str (Str.ofString "knda") t4, .str (Str.ofString "mlym") t5, .str (Str.ofString "mymr") t6, .str (Str.ofString "orya") t7, .str (Str.ofString "taml") t8, .str (Str.ofString "telu") t9]) :
    ∃ tag nw t, v = .str tag t ∧ inNine tag nw := by
  simp only [List.mem_cons, List.not_mem_nil, or_false] at h
  unfold inNine
  rcases h with rfl | rfl | rfl | rfl | rfl | rfl | rfl | rfl | rfl
  · exact ⟨_, _, _, rfl, .inl ⟨rfl, rfl⟩⟩
  · exact ⟨_, _, _, rfl, .inr (.inl ⟨rfl, rfl⟩)⟩
  · exact ⟨_, _, _, rfl, .inr (.inr (.inl ⟨rfl, rfl⟩))⟩
  · exact ⟨_, _, _, rfl, .inr (.inr (.inr (.inl ⟨rfl, rfl⟩)))⟩
  · exact ⟨_, _, _, rfl, .inr (.inr (.inr (.inr (.inl ⟨rfl, rfl⟩))))⟩
  · exact ⟨_, _, _, rfl, .inr (.inr (.inr (.inr (.inr (.inl ⟨rfl, rfl⟩)))))⟩
  · exact ⟨_, _, _, rfl, .inr (.inr (.inr (.inr (.inr (.inr (.inl ⟨rfl, rfl⟩))))))⟩
  · exact ⟨_, _, _, rfl, .inr (.inr (.inr (.inr (.inr (.inr (.inr (.inl ⟨rfl, rfl⟩)))))))⟩
  · exact ⟨_, _, _, rfl, .inr (.inr (.inr (.inr (.inr (.inr (.inr (.inr ⟨rfl, rfl⟩)))))))⟩
theorem elder_at {prog : Program} {w : World} {o : Obj} {tag nw : Str} {t1 t2 t3 t4 t5 t6 t7 t8 t9 u1 u2 u3 u4 u5 u6 u7 u8 u9 : Tok}
    (_ : o.IsDictOf (PySem.strKind prog w) (strPairs [(.str (Str.ofString "beng") t1, .str (Str.ofString "bng2") u1), (.str (Str.ofString "gujr") t2, .str (Str.ofString "gjr2") u2), (.str (Str.ofString "guru") t3, .str (Str.ofString "gur2") u3),
      (.str (Str.ofString "knda") t4, .str (Str.ofString "knd2") u4), (.str (Str.ofString "mlym") t5, .str (Str.ofString "mlm2") u5), (.str (Str.ofString "mymr") t6, .str (Str.ofString "mym2") u6), (.str (Str.ofString "orya") t7, .str (Str.ofString "ory2") u7),
      (.str (Str.ofString "taml") t8, .str (Str.ofString "tml2") u8), (.str (Str.ofString "telu") t9, .str (Str.ofString "tel2") u9)])) (h : inNine tag nw) :
    ∃ t, valueAt (strPairs [(.str (Str.ofString "beng") t1, .str (Str.ofString "bng2") u1), (.str (Str.ofString "gujr") t2, .str (Str.ofString "gjr2") u2), (.str (Str.ofString "guru") t3, .str (Str.ofString "gur2") u3),
      (.str (Str.ofString "knda") t4, .str (Str.ofString "knd2") u4), (.str (Str.ofString "mlym") t5, .str (Str.ofString "mlm2") u5), (.str (Str.ofString "mymr") t6, .str (Str.ofString "mym2") u6), (.str (Str.ofString "orya") t7, .str (Str.ofString "ory2") u7),
      (.str (Str.ofString "taml") t8, .str (Str.ofString "tml2") u8), (.str (Str.ofString "telu") t9, .str (Str.ofString "tel2") u9)]) tag = some (.str nw t) := by
  unfold inNine at h
  rcases h with ⟨rfl, rfl⟩ | ⟨rfl, rfl⟩ | ⟨rfl, rfl⟩ | ⟨rfl, rfl⟩ | ⟨rfl, rfl⟩ | ⟨rfl, rfl⟩ | ⟨rfl, rfl⟩ | ⟨rfl, rfl⟩ | ⟨rfl, rfl⟩ <;> exact ⟨_, rfl⟩
theorem elder_item {prog : Program} {w : World} {A : Around} {E : Value → Shared → Prop} {s : Shared} {h₀ : Heap} {L d : Addr} {news : List (Addr × Obj)} {value slice : PySem.Expr} {tk : Tok} {Q : Value → Shared → Prop} {o : Obj} {tag nw : Str} {t1 t2 t3 t4 t5 t6 t7 t8 t9 u1 u2 u3 u4 u5 u6 u7 u8 u9 : Tok}
    (hd : o.IsDictOf (PySem.strKind prog w) (strPairs [(.str (Str.ofString "beng") t1, .str (Str.ofString "bng2") u1), (.str (Str.ofString "gujr") t2, .str (Str.ofString "gjr2") u2), (.str (Str.ofString "guru") t3, .str (Str.ofString "gur2") u3),
      (.str (Str.ofString "knda") t4, .str (Str.ofString "knd2") u4), (.str (Str.ofString "mlym") t5, .str (Str.ofString "mlm2") u5), (.str (Str.ofString "mymr") t6, .str (Str.ofString "mym2") u6), (.str (Str.ofString "orya") t7, .str (Str.ofString "ory2") u7),
      (.str (Str.ofString "taml") t8, .str (Str.ofString "tml2") u8), (.str (Str.ofString "telu") t9, .str (Str.ofString "tel2") u9)])) (hi : inNine tag nw) (N : News h₀ L s.heap news) (hm : (d, o) ∈ news)
    (h : ∀ t, Q (.str nw t) { s with toks := s.toks + 1 }) (hs : subscripted slice false (.ref d) (.str tag tk) = operate [.ref d, .str tag tk] (getItem (.ref d) (.str tag tk))) :
    wpAny (model prog w) A (subscriptTail value slice (.ref d) (.str tag tk)) Q E s := by
  obtain ⟨t, ht⟩ := elder_at hd hi
  exact kba_turn (value' := PySem.Expr.Name (PySem.Str.ofString "_") ⟨0, 0, 0, 0⟩) (fun _ => rfl) (kda_item (knd := PySem.strKind _ _) N hm hd (strKind_is _ _ _ _) ht (h t) hs)

theorem elder_made {prog : Program} {w : World} {s : Shared} {h₀ : Heap} {L d : Addr} {m : Str → Option Value} {news : List (Addr × Obj)} {g : Obj → List (Addr × Obj)} {o : Obj} {Q : Value → Shared → Prop} {tag nw : Str} {t t' : Tok} {v1 v2 : Value}
    (hne : tag ≠ nw) (F : Fr h₀ L s.heap m) (N : News h₀ L s.heap news) (U : UpdF d o news g) (hd : o.IsDictOf (PySem.strKind prog w) [])
    (h : ∀ h' o', Fr h₀ L h' m → News h₀ L h' (g o') → o'.IsDictOf (PySem.strKind prog w) [(tag, v1), (nw, v2)] → Q (.ref d) { s with heap := h', toks := s.toks + 2 }) : KdnMade prog w (PySem.strKind prog w) d Q [(.str tag t, v1), (.str nw t', v2)] s :=
  kdn_made_str F N U hd rfl (show [tag, nw].Nodup by simp [hne]) h
theorem strs2_ne {prog : Program} {w : World} {A : Around} {E : Value → Shared → Prop} {s : Shared} {h₀ : Heap} {L a b : Addr} {news : List (Addr × Obj)} {x y : Str} {t1 t2 u1 u2 : Tok} {n1 n2 : Nat} {Q : Value → Shared → Prop} (N : News h₀ L s.heap news)
    (ma : (a, listOf (List.toArray [.str x t1, .str y t2]) n1) ∈ news) (mb : (b, listOf (List.toArray [.str x u1, .str y u2]) n2) ∈ news) (hx : PyData.strOk x = true) (hy : PyData.strOk y = true) (hu : A.units + 64 < cLine) (h : Q (.bool false) s) :
    wpAny (model prog w) A (compareOp .NotEq (.ref a) (.ref b)) Q E s :=
  kqd_ne N ma rfl rfl (.cons (.str x t1) (.cons (.str y t2) .nil)) (fun _ hp => hp) mb rfl rfl (.cons (.str x u1) (.cons (.str y u2) .nil)) (fun _ hp => hp) (by simp [kqdOk, hx, hy]) (by simp [kqdOk, hx, hy]) hu (by rw [@decide_eq_true _ (_) rfl]; exact h)
section
variable {prog : Program} {w : World} {p : Program} {loose : List Str} {mean : ExcName → Option Value} {mg mb : Str → Option Value}
    {dp un : Nat} {gd : Option (List Code)} {cn : Str} {cs : Scope} {a : Addr} {ccd : Value} {cl : List (Str × Addr)} {outer : List Env} {A₀ : Around} {base h₀ : Heap} {L : Addr} {m : Str → Option Value} {s : Shared} {Q E : Value → Shared → Prop} {news : List (Addr × Obj)}
theorem con_choose9 {v : Value} {tag nw : Str} {s1 s2 lt : Addr} {t t' : Tok} {nl : Nat} (B : Below A₀ base outer h₀) (F : Fr h₀ L s.heap m) (X : (hd.heap_1 w.params).In h₀) (N : News h₀ L s.heap news) (T : Top p loose mean mg mb h₀) (hk : cs.kind = .function)
    (H : LyIn prog w news v [(tag, .ref s1), (nw, .ref s2)]) (hl : (lt, listOf (List.toArray [.str nw t, .str tag t']) nl) ∈ news) (hne : tag ≠ nw) (hd : dp + 10 < 900) (hu : un + 100 < 9000)
    (ret : ∀ h' tk', Fr h₀ L h' m → News h₀ L h' news → Q (.ref s2) { s with heap := h', toks := tk' }) :
    wpAny (model prog w) (ktrTop dp un gd cn cs L a ccd cl outer) (call (.ref 50) [v, .ref lt]) Q E s :=
  con_choose B F X N T hk H hl (.cons _ _ (.cons _ _ .nil)) (Nat.le_of_ble_eq_true rfl) (fun k u e => by
    by_cases h1 : tag = k
    · simp [valueAt, h1] at e; rw [← e]; rfl
    · by_cases h2 : nw = k
      · simp [valueAt, h1, h2] at e; rw [← e]; rfl
      · simp [valueAt, h1, h2] at e) (by simp [firstOf, valueAt, hne]) hd hu ret
end

theorem law_post (ns : List Int) : PySem.Challenge.rw_pb0152_01.row.claim.post [ofPy (PyData.list (List.map PyData.int ns))] (WData.bool true) [ofPy (PyData.list (List.map PyData.int ns))] = true := by
  kc_post
theorem news_tail {h₀ h : Heap} {L : Addr} {a : Addr × Obj} {l : List (Addr × Obj)} (N : News h₀ L h (a :: l)) : News h₀ L h l := fun p hp => N p (.tail _ hp)

local macro_rules | `(tactic| walk_at "call ref") => `(tactic| (ktd_call (Value.ref 150) [Value.ref _]; k_search con_pen; intro pa' qa' o1' o2' h' tk' hP' hpq' hpn' hqn' F' N'; have hz1 : @Ne Nat _ _ := hpn' _ (List.Mem.head _); have hz2 : @Ne Nat _ _ := hpn' _ (List.Mem.tail _ (List.Mem.head _)); have hz3 : @Ne Nat _ _ := hqn' _ (List.Mem.head _); have hz4 : @Ne Nat _ _ := hqn' _ (List.Mem.tail _ (List.Mem.head _)); clear hpn' hqn'; dsimp only at hz1 hz2 hz3 hz4; (try k_sweep)))
local macro_rules | `(tactic| k_updF) => `(tactic| first | (refine' UpdF.append ?a ?b; (case a => with_reducible assumption); (case b => k_updF)) | (refine' UpdF.head ?a; (case a => k_all)) | (refine' UpdF.tail ?a ?b; (case a => k_ne); (case b => k_updF)))
local macro_rules | `(tactic| walk_at "call ref") => `(tactic| (ktd_call (Value.ref 171) [Value.ref _]; k_search con_layout2; (case hp1 => k_ne); (case hp2 => k_ne); (case hq1 => k_ne); (case hq2 => k_ne); (case hd1 => assumption); (case hd2 => assumption); intro y' kvs' W' o1' o2' h' tk' hP' F' N' w1' w2' w3' w4' hL'; have hf' := LayIn.pick hL'; have hlen' := LayIn.len hL'; have hLy' := LayIn.ly hL'; cases hLy'; (try dsimp only at N'); (try k_sweep)))
local macro_rules | `(tactic| walk_at "exec Assign cons ListComp") => `(tactic| (k_here; k_dflt (refine LCg.Assign_ListComp_U (F₀ := by k_asm) (by rfl) (by with_unfolding_all rfl) (by with_unfolding_all rfl) (by decide) (by rfl) (by decide) (by rfl) (by rfl) (by rfl) ?_)))
local macro_rules | `(tactic| walk_at "CompSrc") => `(tactic| (k_dflt (first
  | (refine' LCg.CompSrc.ledger (by rfl) ?F ?N ?m ?z ?_; (case F => k_asm); (case N => k_asm); (case m => k_mem); (case z => (rename StrsAre _ _ => hS9; rename List.Perm _ _ => hPm9; refine comp_size hS9 hPm9 ?_; assumption)))
  | (refine' LCg.CompSrc.range (by rfl) ?F ?N ?r ?s (rangeSize_nat _ _) ?z ?_; (case F => k_asm); (case N => k_asm); (case r => with_reducible assumption); (case s => exact small_one (by omega) (by omega) (by omega) (by omega)); (case z => (rw [sizeLine_eq]; omega)))); intro g'))
local macro_rules | `(tactic| walk_at "subscriptTail") => `(tactic| (k_here; (with_reducible show wpAny _ _ (subscriptTail _ _ (Value.ref _) (Value.str _ _)) _ _ _); (first | (with_reducible show wpAny _ _ (subscriptTail (PySem.Expr.Name _ _) _ _ _) _ _ _) | k_dflt (refine kba_turn (value' := PySem.Expr.Name (PySem.Str.ofString "_") ⟨0, 0, 0, 0⟩) (fun _ => rfl) ?_)); k_dflt (refine' kda_item (knd := PySem.strKind _ _) ?kN ?km ?kd (strKind_is _ _ _ _) ?kl ?_ ?k2; (case kN => k_asm); (case km => k_mem); (case kd => with_reducible assumption); (case kl => with_reducible assumption); (case k2 => with_unfolding_all rfl))))
local macro_rules | `(tactic| walk_at "ToldEnd") => `(tactic| exact ⟨_, _, _, rfl, by k_asm, by k_asm, by with_reducible assumption, by with_reducible assumption⟩)
local macro_rules | `(tactic| walk_at "PickEnd") => `(tactic| (obtain ⟨k9, t9, e9⟩ := strs_mem (.cons _ _ (.cons _ _ (.cons _ _ (.cons _ _ (.cons _ _ (.cons _ _ .nil)))))) (by with_reducible assumption); subst e9; refine ⟨_, _, _, _, _, _, rfl, rfl, by with_reducible assumption, by k_asm, news_drop (by k_asm) (fun _ hp => List.mem_cons_of_mem _ hp)⟩))
local macro_rules | `(tactic| walk_at "call ref") => `(tactic| (ktd_call (Value.ref 29) [Value.str _ _]; k_search con_stags; (try (case hm => with_reducible exact deva_in)); intro l' t' t2' n' h' tk' F' N' l1; (try k_lt l1); (try k_sweep)))
local macro_rules | `(tactic| walk_at "call ref") => `(tactic| (ktd_call (Value.ref 29) [Value.str (Str.ofString "arab") _]; k_search con_arab; intro l' t' n' h' tk' F' N' l1; (try k_lt l1); (try k_sweep)))
local macro_rules | `(tactic| walk_at "call ref") => `(tactic| (ktd_call (Value.ref 164) [Value.ref _, Value.ref _]; k_search con_pick; intro r' o1' o2' h' tk' hr' hP' F' N'; (first | (obtain ⟨tag9, nw9, t9, e9, i9⟩ := elder_of hr'; subst e9; clear hr'; have j9 := inNine.indic i9; obtain ⟨ne9, ok9, okk9⟩ := inNine.facts i9) | skip); (try dsimp only at N'); (try k_sweep)))
local macro_rules | `(tactic| walk_at "subscriptTail") => `(tactic| (k_here; (with_reducible show wpAny _ _ (subscriptTail _ _ (Value.ref _) (Value.str _ _)) _ _ _); (with_reducible rename inNine _ _ => i9); (with_reducible rename Obj.IsDictOf _ _ _ => hd9); k_dflt (refine' elder_item hd9 i9 ?kN ?km ?_ ?k2; (case kN => k_asm); (case km => k_mem); (case k2 => with_unfolding_all rfl)); intro t9))
local macro_rules | `(tactic| walk_at "eval Dict") => `(tactic| (k_here; (with_reducible rename inNine _ _ => i9); (with_reducible show wpAny _ _ (eval (PySem.Expr.Dict (some (PySem.Expr.Name _ _) :: _) _ _) _) _ _ _); k_dflt (refine' kdn_eval (knd := PySem.strKind _ _) ?F ?N ?b ?a ?l ?e ?n ?_; (case F => k_asm); (case N => k_asm); (case b => exact Top.nolimit (by k_asm)); (case a => rfl); (case l => rfl); (case e => exact List.cons_ne_nil _ _); (case n => exact Nat.le_of_ble_eq_true rfl)); intro d' h' o' F' N' l1 lo' hd'; (try k_lt l1)))
local macro_rules | `(tactic| walk_at "KdnMade") => `(tactic| (k_here; (with_reducible rename inNine _ _ => i9); k_dflt (refine' elder_made ?n ?F ?N ?U ?d ?_; (case n => with_reducible assumption); (case F => k_asm); (case N => k_asm); (case U => k_updF); (case d => with_reducible assumption)); intro h' o' F' N' hd'; (try dsimp only at N')))
local macro_rules | `(tactic| walk_at "compareOp NotEq ref ref") => `(tactic| (k_here; (with_reducible rename inNine _ _ => i9); k_dflt (refine' strs2_ne ?N ?ma ?mb ?x ?y ?u ?_; (case N => k_asm); (case ma => k_mem); (case mb => k_mem); (case x => with_reducible assumption); (case y => with_reducible assumption); (case u => (have hcL9 := cLine_is; ktr_room)))))
local macro_rules | `(tactic| walk_at "call ref") => `(tactic| (ktd_call (Value.ref 50) [_, Value.ref _]; (with_reducible rename inNine _ _ => i9); k_search con_choose9; (case hne => with_reducible assumption); intro h' tk' F' N'; (try k_sweep); (try dsimp only); (try k_fold)))
local macro_rules | `(tactic| walk_at "eval Dict nil nil") => `(tactic| (k_here; (with_reducible rename inNine _ _ => i9); k_dflt (refine' newDict_K ?k1 ?k2 ?k3 ?_; (case k1 => k_asm); (case k2 => k_asm); (case k3 => exact TopRead.nolimit (by k_asm)); k_whole); intro d' h' o' F' N' l1 lo' hs' fs' hi' fi'; (try k_lt l1); (try k_sweep)))
local macro_rules | `(tactic| walk_at "callWith ref") => `(tactic| (k_here; (with_reducible show wpAny _ _ (callWith _ (Prod.fst _) _ _ _) _ _ _); k_dflt (refine' callWith_K0 (K := hd.heap_1 _) ?k1 ?k2 ?_; (case k1 => (with_reducible rename Fr _ _ _ _ => F8; exact Frag.In.keeps (by k_asm) (Fr.keep F8))); (case k2 => k_is); k_whole)))
local macro_rules | `(tactic| k_qdec) => `(tactic| decide +kernel)

theorem lawHolds : PySem.Challenge.rw_pb0152_01.Holds := head (by rfl) (by rfl) (by rfl) (by
    k_go0
    (all_goals try k_fold)
    k_steps
    rename LayIn _ _ _ _ _ => hL
    rename ∃ f : Str → SD, _ => hf
    obtain ⟨f, hf⟩ := hf
    rename StrsAre _ _ => hS
    rename List.Perm _ _ => hPm
    rename sortedS _ = true => hO
    refine told_rest (fun k => scDat (f k)) hS (.head _) ?_ ?_
    · intro k t I oI C oC D m₂ h tk ys nw E' hk hC hx F3 N3 hsub off ne
      have hsubW := sub_mid hsub
      obtain ⟨cm1, cm2⟩ := sub_cell hsub
      obtain ⟨u, hv⟩ := perm_val (hPm.mem_iff.mp hk)
      have hSc := (hf k u hv).1.mono hsubW
      have hLy := hL.ly.mono hsubW
      cases hLy with
      | mk m1 m2 m3 hol lo =>
      obtain ⟨x9, dx9, lx9, a1, a2, a3, a4, a5, a6, a7, a8, dv9, rfl, c1, c2⟩ := hSc.open
      k_steps
    · intro ys tl hAb hDt
      unfold LCg.FinA
      intro D hD tkD F4 N4 off4
      obtain ⟨X, N5, x1, x2, hL5, hDX, hDt5, cm1, cm2, hWX⟩ := told_group4 N4 off4 hAb (by assumption) (by assumption) (by assumption) (by assumption) (by assumption) (by assumption) (by assumption) (by assumption) (by assumption) hL hDt
      have hf5 := fun k u e => And.intro ((hf k u e).1.mono hWX) (hf k u e).2
      have hLy := hL5.ly
      clear N4 off4 hAb hL hDt hf hWX
      cases hLy with
      | mk m1 m2 m3 hol lo =>
      k_steps
      refine tags_rest (by assumption) ?_ ?_
      · intro I oI C oC D3 m₂ h tk ys3 p1 p2 E' hP1 hC F6 N6 off ne
        simp only [LCg.Off3] at off
        k_steps
      · intro ys3 ts3 p1 p2 hS3 hlen3 hP3
        unfold LCg.FinA
        intro D3 h3 tk3 F7 N7 off7
        simp only [LCg.Off1] at off7
        rename Fr _ _ _ _ => F6
        iterate 104 (first | (k_unfold; (try dsimp only)) | walk1 | (dsimp only; walk1) | (leave1; try dsimp only))
        rename News _ _ _ _ => N9
        iterate 6 (replace N9 := news_tail N9)
        iterate 70 (first | (k_unfold; (try dsimp only)) | walk1 | (dsimp only; walk1) | (leave1; try dsimp only))
        rename News _ _ _ _ => N10
        iterate 2 (replace N10 := news_tail N10)
        iterate 162 (first | (k_unfold; (try dsimp only)) | walk1 | (dsimp only; walk1) | (leave1; try dsimp only))
        k_dflt (refine' LCg.ListComp_U (F₀ := ?F) (by with_unfolding_all rfl) (by decide) (by rfl) (by decide) (by rfl) ?_)
        case F => k_asm
        iterate 10 (first | (k_unfold; (try dsimp only)) | walk1 | (dsimp only; walk1) | (leave1; try dsimp only))
        rename StrsAre _ _ => hS9
        rename List.Perm _ _ => hPm9
        rename sortedS _ = true => hO9
        refine told_rest (fun k => scDat (f k)) hS9 (.head _) ?_ ?_
        · intro k t I oI C oC D m₂ h tk ys nw E' hk hC hx F3 N3 hsub off ne
          have hsubX := hsub
          repeat (replace hsubX := sub_cons hsubX)
          have cn1 := hsubX _ cm1
          have cn2 := hsubX _ cm2
          obtain ⟨u, hv⟩ := perm_val (hPm9.mem_iff.mp hk)
          have hSc := (hf5 k u hv).1.mono hsubX
          have hLy := hL5.ly.mono hsubX
          cases hLy with
          | mk m1 m2 m3 hol lo =>
          obtain ⟨x9, dx9, lx9, a1, a2, a3, a4, a5, a6, a7, a8, dv9, rfl, c1, c2⟩ := hSc.open
          iterate 9 (first | (k_unfold; (try dsimp only)) | walk1 | (dsimp only; walk1) | (leave1; try dsimp only))
          k_dflt (refine' callWith_K0 (K := hd.heap_1 _) ?k1 ?k2 ?_)
          (case k1 => (with_reducible rename Fr _ _ _ _ => F8
                       exact Frag.In.keeps (by k_asm) (Fr.keep F8)))
          (case k2 => k_is)
          k_whole
          k_steps
        · intro ys9 tl9 hAb9 hDt9
          unfold LCg.FinE
          intro D9 h9 tk9 F9 N9 off9
          dsimp only
          refine told_eq (fun k => scDat (f k)) N9 (.tail _ (List.mem_append_right _ (by repeat (first | exact hDX | refine List.mem_cons_of_mem _ ?_)))) hDt5 (fun p hp => .tail _ (List.mem_append_right _ (by repeat (first | exact hp | refine List.mem_cons_of_mem _ ?_)))) (.head _) hDt9 (fun p hp => .tail _ (List.mem_append_left _ hp)) hPm hO hPm9 hO9 (fun k u e => kqd_sc (hf5 k u e).2) (by have hcL9 := cLine_is; ktr_room) ?_
          (k_unfold; (try dsimp only))
          refine goodW_bool F9 (by with_reducible assumption) (raisesW_false ?_) ?_
          · wrow_none_raised
          · exact law_post _)

end Jh
theorem PySem.Challenge.cw_pb0152_01_holds : PySem.Challenge.rw_pb0152_01.Holds := by
  exact Jh.lawHolds
